import PyProof.Rows.All
import HandS.ForMost
import HandS.Wide
import HandS.IsInst
import HandS.Deep
import HandS.SortRule
import HandS.SortInts
import HandS.Conv
import HandS.ExcOwn
import HandS.TryOnly
import HandS.WordsExc
import HandS.TupLe
import HandS.CallSlots
import HandS.Style
import KE.SortCalls
import KE.KDictPairs
import KE.KDictCopyH
import KE.KDictList
import HandS.Zip
import HandS.ExcValue
import HandS.ExcIs
import PySem.Challenge.RW_climbways_k39_no_lands_to_turn
set_option Elab.async false
set_option linter.all false
set_option maxRecDepth 100000
set_option maxHeartbeats 4000000
/-! Data trees, who owns which cells, the state between two steps. -/
namespace CW
open PySem L2

/-- data as trees -/
inductive D where
  | non | bl (b : Bool) | int (i : Int) | str (s : Str)
  | tup (xs : List D) | lst (xs : List D)
  /-- the script -/
  | scr (ns : List Int)
  /-- a dict whose keys are tuples of ints and texts -/
  | dct (ks : List (List Key)) (vs : List D)
  /-- a caught exception, by the number of its class -/
  | exn (c : Nat)
instance : Inhabited D := ⟨.non⟩

/-- no list within -/
def D.imm : D → Bool
  | .non => true
  | .bl _ => true
  | .int _ => true
  | .str _ => true
  | .tup ds => ds.attach.all fun ⟨x, _⟩ => x.imm
  | .lst _ => false
  | .scr _ => false
  | .dct _ _ => false
  | .exn _ => true
@[simp] theorem imm_tup (ds : List D) : (D.tup ds).imm = ds.all D.imm := by
  rw [D.imm]
  simp
@[simp] theorem imm_non : D.non.imm = true := by rw [D.imm]
@[simp] theorem imm_bl (b : Bool) : (D.bl b).imm = true := by rw [D.imm]
@[simp] theorem imm_int (b : Int) : (D.int b).imm = true := by rw [D.imm]
@[simp] theorem imm_str (b : Str) : (D.str b).imm = true := by rw [D.imm]
@[simp] theorem imm_lst (b : List D) : (D.lst b).imm = false := by rw [D.imm]
@[simp] theorem imm_scr (b : List Int) : (D.scr b).imm = false := by rw [D.imm]
@[simp] theorem imm_exn (c : Nat) : (D.exn c).imm = true := by rw [D.imm]
@[simp] theorem imm_dct (a : List (List Key)) (b : List D) : (D.dct a b).imm = false := by rw [D.imm]

/-- the classes of what is refused, numbered -/
def exN : Nat → Str
  | 0 => "ClimbError"
  | 1 => "NoLand"
  | 2 => "NoCell"
  | 3 => "NoNumber"
  | 4 => "NoWay"
  | 5 => "NoWeights"
  | 6 => "NoText"
  | 7 => "NoName"
  | _ => "NoRow"
def ClsIx (K : PySem.W.Frag) (c : Nat) (A : Addr) : Prop := PySem.W.nsIn K mainGlobals (exN c) = some (some (.ref A))
/-- an exception object that was caught -/
def ExK (cls : Value) (a : Addr) : HO := .ext fun h => ∃ (oe : Obj) (vs : Array Value), h.get? a = some oe ∧ Zc cls none oe ∧ oe.data = .fields vs
mutual
/-- at v stands d; the lists of F are its own, the others lie in G (there nothing changes any more) -/
inductive Own (K : PySem.W.Frag) (G : Addr → Prop) (H : Hp) : List Addr → V → D → Prop
  | non : Own K G H [] .non .non
  | bl {b} : Own K G H [] (.bl b) (.bl b)
  | int {i} : Own K G H [] (.int i) (.int i)
  | str {s} : Own K G H [] (.str s) (.str s)
  | tup {p vs ds F} : H p = some (.tup vs) → OwnL K G H F vs ds → ds.length ≤ sizeLine → Own K G H F (.ref p) (.tup ds)
  | scrR {p ns} : Rd H p (.lst (ns.map V.int)) → G p → ns.length ≤ sizeLine → Own K G H [] (.ref p) (.scr ns)
  | scrK {p ns} : (∀ H', SqL K H' p (ns.map V.int)) → ns.length ≤ sizeLine → Own K G H [] (.ref p) (.scr ns)
  | frz {p vs ds} : G p → H p = some (.lst vs) → OwnL K G H [] vs ds → ds.length ≤ sizeLine → Own K G H [] (.ref p) (.lst ds)
  | lst {p vs ds F} : H p = some (.lst vs) → OwnL K G H F vs ds → p ∉ F → ds.length ≤ sizeLine → Own K G H (p :: F) (.ref p) (.lst ds)
  | dfz {p ks vs ds} : G p → H p = some (.dT (ks.zip vs)) → ks.length = ds.length → OwnL K G H [] vs ds → ds.length ≤ sizeLine → Own K G H [] (.ref p) (.dct ks ds)
  | dct {p ks vs ds F} : H p = some (.dT (ks.zip vs)) → ks.length = ds.length → OwnL K G H F vs ds → p ∉ F → ds.length ≤ sizeLine → Own K G H (p :: F) (.ref p) (.dct ks ds)
  | exn {p c A} : H p = some (ExK (.ref A) p) → ClsIx K c A → Own K G H [] (.ref p) (.exn c)
inductive OwnL (K : PySem.W.Frag) (G : Addr → Prop) (H : Hp) : List Addr → List V → List D → Prop
  | nil : OwnL K G H [] [] []
  | cons {F F' v d vs ds} : Own K G H F v d → OwnL K G H F' vs ds → (∀ p ∈ F, p ∉ F') → OwnL K G H (F ++ F') (v :: vs) (d :: ds)
end

section
variable {K : PySem.W.Frag} {G G' : Addr → Prop} {H H' : Hp} {F F' : List Addr} {v : V} {d : D} {vs : List V} {ds : List D}

theorem OwnL.len : ∀ {F : List Addr} {vs : List V} {ds : List D}, OwnL K G H F vs ds → vs.length = ds.length
  | _, _, _, .nil => rfl
  | _, _, _, .cons _ t _ => congrArg (· + 1) t.len

/-- what is kept: all cells but those of W -/
def Kp (W : Addr → Prop) (H H' : Hp) : Prop := ∀ p o, H p = some o → ¬ W p → H' p = some o
theorem Kp.seqT {W : Addr → Prop} (k : Kp W H H') (hw : ∀ p xs, H p = some (.tup xs) → ¬ W p) (hz : ∀ p o u, H p = some (.frz o u) → ¬ W p) {p : Addr} (h : SqT K H p vs) : SqT K H' p vs := by
  rcases h with (h | ⟨o, h⟩) | h
  · exact .inl (.inl (k _ _ h (hw _ _ h)))
  · exact .inl (.inr ⟨o, k _ _ h (hz _ _ _ h)⟩)
  · exact .inr h
theorem Kp.rd {W : Addr → Prop} (k : Kp W H H') {p : Addr} (hp : ¬ W p) (h : Rd H p (.lst vs)) : Rd H' p (.lst vs) := by
  rcases h with h | ⟨o, h⟩
  · exact .inl (k _ _ h hp)
  · exact .inr ⟨o, k _ _ h hp⟩
theorem Kp.seqL {W : Addr → Prop} (k : Kp W H H') {p : Addr} (hp : ¬ W p) (h : SqL K H p vs) : SqL K H' p vs := by
  rcases h with (h | ⟨o, h⟩) | h
  · exact .inl (.inl (k _ _ h hp))
  · exact .inl (.inr ⟨o, k _ _ h hp⟩)
  · exact .inr h

/-- what is written: lists, dicts -/
def MuO : Type := {o : HO // (∃ xs, o = .lst xs) ∨ ∃ kvs, o = .dT kvs}
instance : Coe (List V) MuO := ⟨fun xs => ⟨.lst xs, .inl ⟨xs, rfl⟩⟩⟩
instance : Coe (List (List Key × V)) MuO := ⟨fun xs => ⟨.dT xs, .inr ⟨xs, rfl⟩⟩⟩
theorem MuO.nt (m : MuO) {xs : List V} (h : HO.tup xs = m.1) : False := by
  obtain ⟨o, ho⟩ := m
  simp only at h
  subst h
  rcases ho with ⟨_, q⟩ | ⟨_, q⟩ <;> cases q
theorem MuO.nz (m : MuO) {o : Obj} {u : HO} (h : HO.frz o u = m.1) : False := by
  obtain ⟨o, ho⟩ := m
  simp only at h
  subst h
  rcases ho with ⟨_, q⟩ | ⟨_, q⟩ <;> cases q
/-- only these are written -/
def Wl (W : Addr → Prop) (H : Hp) : Prop := ∀ p, W p → ∀ o, H p = some o → ∃ m : MuO, o = m.1
theorem Wl.t {W : Addr → Prop} (w : Wl W H) : ∀ p xs, H p = some (.tup xs) → ¬ W p := fun p xs h hw => by
  obtain ⟨m, e⟩ := w p hw _ h
  exact m.nt e
theorem Wl.z {W : Addr → Prop} (w : Wl W H) : ∀ p o u, H p = some (.frz o u) → ¬ W p := fun p o u h hw => by
  obtain ⟨m, e⟩ := w p hw _ h
  exact m.nz e

theorem MuO.ne (m : MuO) {φ : Heap → Prop} (h : HO.ext φ = m.1) : False := by
  obtain ⟨o, ho⟩ := m
  simp only at h
  subst h
  rcases ho with ⟨_, q⟩ | ⟨_, q⟩ <;> cases q
theorem Wl.e {W : Addr → Prop} (w : Wl W H) : ∀ p φ, H p = some (.ext φ) → ¬ W p := fun p φ h hw => by
  obtain ⟨m, e⟩ := w p hw _ h
  exact m.ne e
mutual
theorem Own.keep {W : Addr → Prop} (k : Kp W H H') (w : Wl W H) (hg : ∀ p, G p → ¬ W p) (gg : ∀ p, G p → G' p) : ∀ {F : List Addr} {v : V} {d : D}, Own K G H F v d → (∀ p ∈ F, ¬ W p) → Own K G' H' F v d
  | _, _, _, .non, _ => .non
  | _, _, _, .bl, _ => .bl
  | _, _, _, .int, _ => .int
  | _, _, _, .str, _ => .str
  | _, _, _, .tup h t z, hf => .tup (k _ _ h (w.t _ _ h)) (OwnL.keep k w hg gg t hf) z
  | _, _, _, .scrR h g z, _ => .scrR (k.rd (hg _ g) h) (gg _ g) z
  | _, _, _, .scrK h z, _ => .scrK h z
  | _, _, _, .frz g h t z, hf => .frz (gg _ g) (k _ _ h (hg _ g)) (OwnL.keep k w hg gg t (fun _ h => nomatch h)) z
  | _, _, _, .lst h t n z, hf => .lst (k _ _ h (hf _ List.mem_cons_self)) (OwnL.keep k w hg gg t fun p hp => hf p (List.mem_cons_of_mem _ hp)) n z
  | _, _, _, .dfz g h l t z, hf => .dfz (gg _ g) (k _ _ h (hg _ g)) l (OwnL.keep k w hg gg t (fun _ h => nomatch h)) z
  | _, _, _, .exn h c, _ => .exn (k _ _ h (w.e _ _ h)) c
  | _, _, _, .dct h l t n z, hf => .dct (k _ _ h (hf _ List.mem_cons_self)) l (OwnL.keep k w hg gg t fun p hp => hf p (List.mem_cons_of_mem _ hp)) n z
theorem OwnL.keep {W : Addr → Prop} (k : Kp W H H') (w : Wl W H) (hg : ∀ p, G p → ¬ W p) (gg : ∀ p, G p → G' p) : ∀ {F : List Addr} {vs : List V} {ds : List D}, OwnL K G H F vs ds → (∀ p ∈ F, ¬ W p) → OwnL K G' H' F vs ds
  | _, _, _, .nil, _ => .nil
  | _, _, _, .cons h t n, hf => .cons (Own.keep k w hg gg h fun p hp => hf p (List.mem_append_left _ hp)) (OwnL.keep k w hg gg t fun p hp => hf p (List.mem_append_right _ hp)) n
end
theorem Kp.refl {W : Addr → Prop} (H : Hp) : Kp W H H := fun _ _ h _ => h
theorem Own.mono (gg : ∀ p, G p → G' p) (h : Own K G H F v d) : Own K G' H F v d := h.keep (W := fun _ => False) (Kp.refl H) (fun _ h => h.elim) (fun _ _ h => h) gg fun _ _ h => h
theorem OwnL.mono (gg : ∀ p, G p → G' p) (h : OwnL K G H F vs ds) : OwnL K G' H F vs ds := h.keep (W := fun _ => False) (Kp.refl H) (fun _ h => h.elim) (fun _ _ h => h) gg fun _ _ h => h
theorem Own.ex (e : ∀ p o, H p = some o → H' p = some o) (h : Own K G H F v d) : Own K G H' F v d := h.keep (W := fun _ => False) (fun p o q _ => e p o q) (fun _ h => h.elim) (fun _ _ h => h) (fun _ h => h) fun _ _ h => h
theorem OwnL.ex (e : ∀ p o, H p = some o → H' p = some o) (h : OwnL K G H F vs ds) : OwnL K G H' F vs ds := h.keep (W := fun _ => False) (fun p o q _ => e p o q) (fun _ h => h.elim) (fun _ _ h => h) (fun _ h => h) fun _ _ h => h

mutual
/-- from now on nothing of it changes -/
theorem Own.freeze (gg : ∀ p, G p → G' p) : ∀ {F : List Addr} {v : V} {d : D}, Own K G H F v d → (∀ p ∈ F, G' p) → Own K G' H [] v d
  | _, _, _, .non, _ => .non
  | _, _, _, .bl, _ => .bl
  | _, _, _, .int, _ => .int
  | _, _, _, .str, _ => .str
  | _, _, _, .tup h t z, hf => .tup h (OwnL.freeze gg t hf) z
  | _, _, _, .scrR h g z, _ => .scrR h (gg _ g) z
  | _, _, _, .scrK h z, _ => .scrK h z
  | _, _, _, .frz g h t z, hf => .frz (gg _ g) h (OwnL.freeze gg t (fun _ h => nomatch h)) z
  | _, _, _, .lst h t n z, hf => .frz (hf _ List.mem_cons_self) h (OwnL.freeze gg t fun p hp => hf p (List.mem_cons_of_mem _ hp)) z
  | _, _, _, .dfz g h l t z, hf => .dfz (gg _ g) h l (OwnL.freeze gg t (fun _ h => nomatch h)) z
  | _, _, _, .exn h c, _ => .exn h c
  | _, _, _, .dct h l t n z, hf => .dfz (hf _ List.mem_cons_self) h l (OwnL.freeze gg t fun p hp => hf p (List.mem_cons_of_mem _ hp)) z
theorem OwnL.freeze (gg : ∀ p, G p → G' p) : ∀ {F : List Addr} {vs : List V} {ds : List D}, OwnL K G H F vs ds → (∀ p ∈ F, G' p) → OwnL K G' H [] vs ds
  | _, _, _, .nil, _ => .nil
  | _, _, _, .cons h t n, hf => .cons (F := []) (F' := []) (Own.freeze gg h fun p hp => hf p (List.mem_append_left _ hp)) (OwnL.freeze gg t fun p hp => hf p (List.mem_append_right _ hp)) fun _ h => nomatch h
end

mutual
theorem Own.immut : ∀ {F : List Addr} {v : V} {d : D}, Own K G H F v d → d.imm = true → F = [] ∧ Own K (fun _ => False) H [] v d
  | _, _, _, .non, _ => ⟨rfl, .non⟩
  | _, _, _, .bl, _ => ⟨rfl, .bl⟩
  | _, _, _, .int, _ => ⟨rfl, .int⟩
  | _, _, _, .str, _ => ⟨rfl, .str⟩
  | _, _, _, .tup h t z, hf => by
    rw [imm_tup] at hf
    obtain ⟨e, q⟩ := OwnL.immut t hf
    exact ⟨e, .tup h q z⟩
  | _, _, _, .scrR h g _, hf => by simp at hf
  | _, _, _, .scrK h _, hf => by simp at hf
  | _, _, _, .frz g h t z, hf => by simp at hf
  | _, _, _, .lst h t n z, hf => by simp at hf
  | _, _, _, .dfz g h l t z, hf => by simp at hf
  | _, _, _, .exn h c, _ => ⟨rfl, .exn h c⟩
  | _, _, _, .dct h l t n z, hf => by simp at hf
theorem OwnL.immut : ∀ {F : List Addr} {vs : List V} {ds : List D}, OwnL K G H F vs ds → ds.all D.imm = true → F = [] ∧ OwnL K (fun _ => False) H [] vs ds
  | _, _, _, .nil, _ => ⟨rfl, .nil⟩
  | _, _, _, .cons h t n, hf => by
    rw [List.all_cons, Bool.and_eq_true] at hf
    obtain ⟨e1, q1⟩ := Own.immut h hf.1
    obtain ⟨e2, q2⟩ := OwnL.immut t hf.2
    subst e1 e2
    exact ⟨rfl, .cons (F := []) (F' := []) q1 q2 fun _ h => nomatch h⟩
end
mutual
theorem Own.mut : ∀ {F : List Addr} {v : V} {d : D}, Own K G H F v d → ∀ p ∈ F, ∃ m : MuO, H p = some m.1
  | _, _, _, .non, _, h => nomatch h
  | _, _, _, .bl, _, h => nomatch h
  | _, _, _, .int, _, h => nomatch h
  | _, _, _, .str, _, h => nomatch h
  | _, _, _, .tup h t _, p, hf => OwnL.mut t p hf
  | _, _, _, .scrR h g _, _, h' => nomatch h'
  | _, _, _, .scrK h _, _, h' => nomatch h'
  | _, _, _, .frz g h t z, _, h' => nomatch h'
  | _, _, _, .lst h t n z, p, hf => by
    rcases List.mem_cons.mp hf with rfl | hf
    · exact ⟨⟨.lst _, .inl ⟨_, rfl⟩⟩, h⟩
    · exact OwnL.mut t p hf
  | _, _, _, .dfz g h l t z, _, h' => nomatch h'
  | _, _, _, .exn _ _, _, h' => nomatch h'
  | _, _, _, .dct h l t n z, p, hf => by
    rcases List.mem_cons.mp hf with rfl | hf
    · exact ⟨⟨.dT _, .inr ⟨_, rfl⟩⟩, h⟩
    · exact OwnL.mut t p hf
theorem OwnL.mut : ∀ {F : List Addr} {vs : List V} {ds : List D}, OwnL K G H F vs ds → ∀ p ∈ F, ∃ m : MuO, H p = some m.1
  | _, _, _, .nil, _, h => nomatch h
  | _, _, _, .cons h t n, p, hf => by
    rcases List.mem_append.mp hf with hf | hf
    · exact Own.mut h p hf
    · exact OwnL.mut t p hf
end
theorem OwnL.get : ∀ {F : List Addr} {vs : List V} {ds : List D} {i : Nat} {d : D}, OwnL K G H F vs ds → ds[i]? = some d → ∃ v F', vs[i]? = some v ∧ Own K G H F' v d ∧ ∀ p ∈ F', p ∈ F
  | _, _, _, _, _, .nil, e => by simp at e
  | _, _, _, 0, d, .cons h t n, e => by
    have e' := Option.some.inj e
    subst e'
    exact ⟨_, _, rfl, h, fun p hp => List.mem_append_left _ hp⟩
  | _, _, _, i + 1, d, .cons h t n, e => by
    obtain ⟨v, F', h1, h2, h3⟩ := OwnL.get t (i := i) (d := d) (by simpa using e)
    exact ⟨v, F', by simpa using h1, h2, fun p hp => List.mem_append_right _ (h3 p hp)⟩
/-- without its own cells -/
theorem OwnL.get0 {i : Nat} (h : OwnL K G H [] vs ds) (e : ds[i]? = some d) : ∃ v, vs[i]? = some v ∧ Own K G H [] v d := by
  obtain ⟨v, F', h1, h2, h3⟩ := h.get e
  have : F' = [] := List.eq_nil_iff_forall_not_mem.mpr fun p hp => nomatch h3 p hp
  subst this
  exact ⟨v, h1, h2⟩
theorem OwnL.cons0 (h : Own K G H [] v d) (t : OwnL K G H [] vs ds) : OwnL K G H [] (v :: vs) (d :: ds) := .cons (F := []) (F' := []) h t fun _ h => nomatch h
theorem OwnL.uncons0 {vs : List V} (h : OwnL K G H [] vs (d :: ds)) : ∃ v vs', vs = v :: vs' ∧ Own K G H [] v d ∧ OwnL K G H [] vs' ds := by
  generalize e : ([] : List Addr) = F at h
  cases h with
  | cons h t n =>
    obtain ⟨e1, e2⟩ := List.append_eq_nil_iff.mp e.symm
    subst e1 e2
    exact ⟨_, _, rfl, h, t⟩
theorem OwnL.append0 : ∀ {vs ws : List V} {ds es : List D}, OwnL K G H [] vs ds → OwnL K G H [] ws es → OwnL K G H [] (vs ++ ws) (ds ++ es)
  | _, _, [], _, h, h' => by
    generalize e : ([] : List Addr) = F at h
    cases h
    exact h'
  | _, _, d :: ds, _, h, h' => by
    obtain ⟨v, vs', rfl, a, b⟩ := h.uncons0
    exact .cons0 a (OwnL.append0 b h')
theorem OwnL.snoc : ∀ {F F' : List Addr} {vs : List V} {ds : List D} {v : V} {d : D}, OwnL K G H F vs ds → Own K G H F' v d → (∀ p ∈ F, p ∉ F') → OwnL K G H (F ++ F') (vs ++ [v]) (ds ++ [d])
  | _, F', _, _, v, d, .nil, h, n => by
    have q : OwnL K G H (F' ++ []) [v] [d] := .cons h .nil fun _ _ h => nomatch h
    rw [List.append_nil] at q
    exact q
  | _, F', _, _, v, d, .cons (F := F1) (F' := F2) h t n', h', n => by
    rw [List.append_assoc]
    refine .cons h (OwnL.snoc t h' fun p hp => n p (List.mem_append_right _ hp)) fun p hp hm => ?_
    rcases List.mem_append.mp hm with hm | hm
    · exact n' p hp hm
    · exact n p (List.mem_append_left _ hp) hm
/-- from the pieces -/
theorem OwnL.of0 : ∀ {vs : List V} {ds : List D}, vs.length = ds.length → (∀ (i : Nat) (v : V) (d : D), vs[i]? = some v → ds[i]? = some d → Own K G H [] v d) → OwnL K G H [] vs ds
  | [], [], _, _ => .nil
  | v :: vs, d :: ds, e, h => .cons0 (h 0 v d rfl rfl) (OwnL.of0 (by simpa using e) fun i v d a b => h (i + 1) v d (by simpa using a) (by simpa using b))
end
end CW
namespace CW
open PySem L2

/-- what a variable (a value) is: without lists; frozen; owned, with frozen things within or without; read from a variable -/
inductive Kd where
  | im | sh | ow | os
  deriving DecidableEq
inductive Md where
  | im | sh | ow | os | rd (r : Nat)
  deriving DecidableEq
abbrev NoG : Addr → Prop := fun _ => False
def Kd.g (k : Kd) (G : Addr → Prop) : Addr → Prop := match k with
  | .im => NoG
  | .sh => G
  | .ow => NoG
  | .os => G
def Kd.fr : Kd → Bool
  | .im => true
  | .sh => true
  | _ => false
def kd (ks : List Kd) (i : Nat) : Kd := ks.getD i .im
abbrev Env := List (Option D)

/-- how things stand -/
structure SI (K : PySem.W.Frag) (ks : List Kd) (G : Addr → Prop) (H : Hp) (σ : L2.St) (Γ : Env) (Φ : Nat → List Addr) : Prop where
  len : Γ.length = σ.length
  kl : ks.length = σ.length
  slot : ∀ (i : Nat) (d : D), Γ[i]? = some (some d) → ∃ v, σ[i]? = some (some v) ∧ Own K ((kd ks i).g G) H (Φ i) v d
  non : ∀ (i : Nat), (∀ d : D, Γ[i]? ≠ some (some d)) → Φ i = []
  sh : ∀ i, (kd ks i).fr = true → Φ i = []
  os : ∀ (i : Nat) (d : D), Γ[i]? = some (some d) → kd ks i = .os → Φ i ≠ []
  dis : ∀ i j, i ≠ j → ∀ p ∈ Φ i, p ∉ Φ j
  gd : ∀ i, ∀ p ∈ Φ i, ¬ G p
  gl : ∀ p, G p → H p ≠ none

structure Step (eff : List Nat) (G : Addr → Prop) (H : Hp) (Φ : Nat → List Addr) (Γ : Env) (G' : Addr → Prop) (H' : Hp) (Φ' : Nat → List Addr) (Γ' : Env) : Prop where
  g : ∀ p, G p → G' p
  gn : ∀ p, G' p → G p ∨ H p = none ∨ ∃ i ∈ eff, p ∈ Φ i
  kp : ∀ p o, H p = some o → (∀ i ∈ eff, p ∉ Φ i) → H' p = some o
  fx : ∀ i, i ∉ eff → Φ' i = Φ i ∧ Γ'[i]? = Γ[i]?
  fn : ∀ i ∈ eff, ∀ p ∈ Φ' i, (∃ j ∈ eff, p ∈ Φ j) ∨ H p = none
  ex : ∀ p, H' p = none → H p = none

section
variable {K : PySem.W.Frag} {ks : List Kd} {G G' G1 G2 : Addr → Prop} {H H' H1 H2 : Hp} {σ σ' : L2.St} {Γ Γ' Γ1 Γ2 : Env} {Φ Φ' Φ1 Φ2 : Nat → List Addr} {eff eff' : List Nat} {F F' : List Addr} {v : V} {d : D}

theorem Kd.g_le {k : Kd} : ∀ p, k.g G p → G p := fun p h => by cases k <;> first | exact h | exact h.elim
theorem Kd.g_mono {k : Kd} (gg : ∀ p, G p → G' p) : ∀ p, k.g G p → k.g G' p := fun p h => by cases k <;> first | exact gg p h | exact h

theorem SI.mut (I : SI K ks G H σ Γ Φ) : ∀ i, ∀ p ∈ Φ i, ∃ m : MuO, H p = some m.1 := fun i p hp => by
  by_cases h : ∃ d : D, Γ[i]? = some (some d)
  · obtain ⟨d, h⟩ := h
    obtain ⟨v, _, o⟩ := I.slot i d h
    exact o.mut p hp
  · rw [I.non i fun d e => h ⟨d, e⟩] at hp
    exact nomatch hp
theorem SI.wl (I : SI K ks G H σ Γ Φ) (eff : List Nat) : Wl (fun p => ∃ i ∈ eff, p ∈ Φ i) H := fun p ⟨i, _, hp⟩ o e => by
  obtain ⟨xs, q⟩ := I.mut i p hp
  rw [q] at e
  exact ⟨xs, (Option.some.inj e).symm⟩

theorem Step.refl : Step eff G H Φ Γ G H Φ Γ := ⟨fun _ h => h, fun _ h => .inl h, fun _ _ h _ => h, fun _ _ => ⟨rfl, rfl⟩, fun i hi p hp => .inl ⟨i, hi, hp⟩, fun _ h => h⟩
theorem Step.trans (a : Step eff G H Φ Γ G1 H1 Φ1 Γ1) (b : Step eff' G1 H1 Φ1 Γ1 G2 H2 Φ2 Γ2) : Step (eff ++ eff') G H Φ Γ G2 H2 Φ2 Γ2 := by
  have key : ∀ p, (∃ i ∈ eff', p ∈ Φ1 i) → (∃ i ∈ eff ++ eff', p ∈ Φ i) ∨ H p = none := fun p ⟨i, hi, hp⟩ => by
    by_cases he : i ∈ eff
    · rcases a.fn i he p hp with ⟨j, hj, q⟩ | q
      · exact .inl ⟨j, List.mem_append_left _ hj, q⟩
      · exact .inr q
    · rw [(a.fx i he).1] at hp
      exact .inl ⟨i, List.mem_append_right _ hi, hp⟩
  have key2 : ∀ p, H1 p = none → (∃ i ∈ eff ++ eff', p ∈ Φ i) ∨ H p = none := fun p hp => by
    cases e : H p with
    | none => exact .inr rfl
    | some o =>
      by_cases h : ∃ i ∈ eff, p ∈ Φ i
      · obtain ⟨i, hi, q⟩ := h
        exact .inl ⟨i, List.mem_append_left _ hi, q⟩
      · rw [a.kp p o e fun i hi q => h ⟨i, hi, q⟩] at hp
        cases hp
  refine ⟨fun p h => b.g p (a.g p h), fun p h => ?_, fun p o h n => ?_, fun i hi => ?_, fun i hi p hp => ?_, fun p h => a.ex p (b.ex p h)⟩
  · rcases b.gn p h with h | h | h
    · rcases a.gn p h with h | h | ⟨i, hi, h⟩
      · exact .inl h
      · exact .inr (.inl h)
      · exact .inr (.inr ⟨i, List.mem_append_left _ hi, h⟩)
    · rcases key2 p h with h | h
      · exact .inr (.inr h)
      · exact .inr (.inl h)
    · rcases key p h with h | h
      · exact .inr (.inr h)
      · exact .inr (.inl h)
  · refine b.kp p o (a.kp p o h fun i hi => n i (List.mem_append_left _ hi)) fun i hi hp => ?_
    rcases key p ⟨i, hi, hp⟩ with ⟨j, hj, q⟩ | q
    · exact n j hj q
    · rw [h] at q
      cases q
  · have h1 : i ∉ eff := fun q => hi (List.mem_append_left _ q)
    have h2 : i ∉ eff' := fun q => hi (List.mem_append_right _ q)
    exact ⟨(b.fx i h2).1.trans (a.fx i h1).1, (b.fx i h2).2.trans (a.fx i h1).2⟩
  · by_cases he : i ∈ eff'
    · rcases b.fn i he p hp with q | q
      · exact key p q
      · exact key2 p q
    · rw [(b.fx i he).1] at hp
      by_cases h1 : i ∈ eff
      · rcases a.fn i h1 p hp with ⟨j, hj, q⟩ | q
        · exact .inl ⟨j, List.mem_append_left _ hj, q⟩
        · exact .inr q
      · rw [(a.fx i h1).1] at hp
        exact .inl ⟨i, hi, hp⟩
theorem Step.wider (h : Step eff G H Φ Γ G1 H1 Φ1 Γ1) (e : ∀ i ∈ eff, i ∈ eff') : Step eff' G H Φ Γ G1 H1 Φ1 Γ1 := by
  refine ⟨h.g, fun p q => ?_, fun p o q n => h.kp p o q fun i hi => n i (e i hi), fun i hi => h.fx i fun q => hi (e i q), fun i hi p hp => ?_, h.ex⟩
  · rcases h.gn p q with q | q | ⟨i, hi, q⟩
    · exact .inl q
    · exact .inr (.inl q)
    · exact .inr (.inr ⟨i, e i hi, q⟩)
  · by_cases he : i ∈ eff
    · rcases h.fn i he p hp with ⟨j, hj, q⟩ | q
      · exact .inl ⟨j, e j hj, q⟩
      · exact .inr q
    · rw [(h.fx i he).1] at hp
      exact .inl ⟨i, hi, hp⟩

/-- a value of one's own that nobody else has -/
def Tmp (G : Addr → Prop) (H : Hp) (Φ : Nat → List Addr) (F : List Addr) : Prop := ∀ p ∈ F, ¬ G p ∧ (∀ i, p ∉ Φ i) ∧ H p ≠ none
theorem Tmp.step (t : Tmp G H Φ F) (s : Step eff G H Φ Γ G1 H1 Φ1 Γ1) : Tmp G1 H1 Φ1 F := fun p hp => by
  obtain ⟨a, b, c⟩ := t p hp
  refine ⟨fun h => ?_, fun i h => ?_, ?_⟩
  · rcases s.gn p h with q | q | ⟨i, _, q⟩
    · exact a q
    · exact c q
    · exact b i q
  · by_cases he : i ∈ eff
    · rcases s.fn i he p h with ⟨j, _, q⟩ | q
      · exact b j q
      · exact c q
    · rw [(s.fx i he).1] at h
      exact b i h
  · cases e : H p with
    | none => exact absurd e c
    | some o =>
      rw [s.kp p o e fun i _ => b i]
      intro h
      cases h
theorem Tmp.nil : Tmp G H Φ [] := fun _ h => nomatch h

/-- it stays through a step that does not touch it -/
theorem Own.step (I : SI K ks G H σ Γ Φ) (s : Step eff G H Φ Γ G1 H1 Φ1 Γ1) (h : Own K G H F v d) (hf : ∀ p ∈ F, ∀ i ∈ eff, p ∉ Φ i) : Own K G1 H1 F v d :=
  h.keep (W := fun p => ∃ i ∈ eff, p ∈ Φ i) (fun p o e n => s.kp p o e fun i hi q => n ⟨i, hi, q⟩) (I.wl eff) (fun p g ⟨i, _, q⟩ => I.gd i p q g) s.g fun p hp ⟨i, hi, q⟩ => hf p hp i hi q
theorem Own.step0 (I : SI K ks G H σ Γ Φ) (s : Step eff G H Φ Γ G1 H1 Φ1 Γ1) (h : Own K NoG H F v d) (hf : ∀ p ∈ F, ∀ i ∈ eff, p ∉ Φ i) : Own K NoG H1 F v d :=
  h.keep (W := fun p => ∃ i ∈ eff, p ∈ Φ i) (fun p o e n => s.kp p o e fun i hi q => n ⟨i, hi, q⟩) (I.wl eff) (fun p g _ => g) (fun _ h => h) fun p hp ⟨i, hi, q⟩ => hf p hp i hi q

def Res (K : PySem.W.Frag) (m : Md) (G : Addr → Prop) (H : Hp) (Φ : Nat → List Addr) (F : List Addr) (v : V) (d : D) : Prop := match m with
  | .im => F = [] ∧ Own K NoG H [] v d
  | .sh => F = [] ∧ Own K G H [] v d
  | .ow => Own K NoG H F v d ∧ Tmp G H Φ F
  | .os => Own K G H F v d ∧ Tmp G H Φ F ∧ F ≠ []
  | .rd r => Own K G H F v d ∧ ∀ p ∈ F, p ∈ Φ r
def Md.off (m : Md) (eff : List Nat) : Bool := match m with
  | .rd r => !eff.contains r
  | _ => true
theorem NoG.le : ∀ p, NoG p → G p := fun _ h => h.elim
theorem Res.own {m : Md} (r : Res K m G H Φ F v d) : Own K G H F v d := by
  cases m with
  | im => obtain ⟨rfl, r⟩ := r; exact r.mono NoG.le
  | sh => obtain ⟨rfl, r⟩ := r; exact r
  | ow => exact r.1.mono NoG.le
  | os => exact r.1
  | rd _ => exact r.1
theorem Res.step {m : Md} (I : SI K ks G H σ Γ Φ) (r : Res K m G H Φ F v d) (s : Step eff G H Φ Γ G1 H1 Φ1 Γ1) (o : m.off eff = true) : Res K m G1 H1 Φ1 F v d := by
  cases m with
  | im => obtain ⟨rfl, r⟩ := r; exact ⟨rfl, r.step0 I s fun _ h => nomatch h⟩
  | sh => obtain ⟨rfl, r⟩ := r; exact ⟨rfl, r.step I s fun _ h => nomatch h⟩
  | ow => exact ⟨r.1.step0 I s fun p hp i _ => (r.2 p hp).2.1 i, r.2.step s⟩
  | os => exact ⟨r.1.step I s fun p hp i _ => (r.2.1 p hp).2.1 i, r.2.1.step s, r.2.2⟩
  | rd q =>
    have hq : q ∉ eff := by simpa [Md.off] using o
    refine ⟨r.1.step I s fun p hp i hi h => ?_, fun p hp => ?_⟩
    · by_cases e : i = q
      · subst e; exact hq hi
      · exact I.dis i q e p h (r.2 p hp)
    · rw [(s.fx q hq).1]
      exact r.2 p hp

/-- nothing but new cells -/
theorem SI.grow (I : SI K ks G H σ Γ Φ) (e : ∀ p o, H p = some o → H' p = some o) : SI K ks G H' σ Γ Φ :=
  ⟨I.len, I.kl, fun i d h => by
    obtain ⟨v, a, b⟩ := I.slot i d h
    exact ⟨v, a, b.ex e⟩, I.non, I.sh, I.os, I.dis, I.gd, fun p g h => by
    cases q : H p with
    | none => exact I.gl p g q
    | some o =>
      rw [e p o q] at h
      cases h⟩
theorem Step.grow (e : ∀ p o, H p = some o → H' p = some o) : Step [] G H Φ Γ G H' Φ Γ :=
  ⟨fun _ h => h, fun _ h => .inl h, fun p o h _ => e p o h, fun _ _ => ⟨rfl, rfl⟩, (fun _ h => nomatch h), fun p h => by
    cases q : H p with
    | none => rfl
    | some o =>
      rw [e p o q] at h
      cases h⟩
/-- a value of nobody's is frozen -/
theorem SI.freeze (I : SI K ks G H σ Γ Φ) (t : Tmp G H Φ F) : SI K ks (fun p => G p ∨ p ∈ F) H σ Γ Φ :=
  ⟨I.len, I.kl, fun i d h => by
    obtain ⟨v, a, b⟩ := I.slot i d h
    exact ⟨v, a, b.mono (Kd.g_mono fun _ h => .inl h)⟩, I.non, I.sh, I.os, I.dis, fun i p hp g => by
    rcases g with g | g
    · exact I.gd i p hp g
    · exact (t p g).2.1 i hp, fun p g => by
    rcases g with g | g
    · exact I.gl p g
    · exact (t p g).2.2⟩

/-- another footprint at i -/
def pu (Φ : Nat → List Addr) (i : Nat) (F : List Addr) : Nat → List Addr := fun j => if j = i then F else Φ j
theorem pu_same {i : Nat} : pu Φ i F i = F := by unfold pu; rw [if_pos rfl]
theorem pu_ne {i j : Nat} (h : j ≠ i) : pu Φ i F j = Φ j := by unfold pu; rw [if_neg h]
theorem pu_mem {i j : Nat} {p : Addr} (h : p ∈ pu Φ i F j) : (j = i ∧ p ∈ F) ∨ (j ≠ i ∧ p ∈ Φ j) := by
  by_cases e : j = i
  · subst e
    rw [pu_same] at h
    exact .inl ⟨rfl, h⟩
  · rw [pu_ne e] at h
    exact .inr ⟨e, h⟩
/-- a slot's data given up -/
theorem SI.drop (I : SI K ks G H σ Γ Φ) (i : Nat) : SI K ks G H σ (Γ.set i none) (pu Φ i []) := by
  refine ⟨by rw [List.length_set]; exact I.len, I.kl, fun j d hj => ?_, fun j hj => ?_, fun j hj => ?_, fun j d hj => ?_, fun j k hjk p hp => ?_, fun j p hp => ?_, I.gl⟩
  · have hji : j ≠ i := fun q => by
      subst q
      rw [List.getElem?_set] at hj
      simp at hj
    rw [List.getElem?_set_ne hji.symm] at hj
    rw [pu_ne hji]
    exact I.slot j d hj
  · by_cases hji : j = i
    · subst hji
      exact pu_same
    · rw [pu_ne hji]
      rw [List.getElem?_set_ne (Ne.symm hji)] at hj
      exact I.non j hj
  · by_cases hji : j = i
    · subst hji
      exact pu_same
    · rw [pu_ne hji]
      exact I.sh j hj
  · have hji : j ≠ i := fun q => by
      subst q
      rw [List.getElem?_set] at hj
      simp at hj
    rw [List.getElem?_set_ne hji.symm] at hj
    rw [pu_ne hji]
    exact I.os j d hj
  · rcases pu_mem hp with ⟨_, q⟩ | ⟨hj, q⟩
    · exact nomatch q
    · intro h
      rcases pu_mem h with ⟨_, q'⟩ | ⟨hk, q'⟩
      · exact nomatch q'
      · exact I.dis j k hjk p q q'
  · rcases pu_mem hp with ⟨_, q⟩ | ⟨hj, q⟩
    · exact nomatch q
    · exact I.gd j p q
theorem Step.drop (i : Nat) : Step [i] G H Φ Γ G H (pu Φ i []) (Γ.set i none) :=
  ⟨fun _ h => h, fun _ h => .inl h, fun p o h _ => h, fun j hj => by
    have hji : j ≠ i := fun q => hj (List.mem_singleton.mpr q)
    rw [pu_ne hji, List.getElem?_set_ne hji.symm]
    exact ⟨rfl, rfl⟩, fun j hj p hp => by
    rw [List.mem_singleton.mp hj, pu_same] at hp
    exact (List.not_mem_nil hp).elim, fun _ h => h⟩
theorem SI.dropTmp (I : SI K ks G H σ Γ Φ) (i : Nat) : Tmp G H (pu Φ i []) (Φ i) := fun p hp => by
  refine ⟨I.gd i p hp, fun j hj => ?_, ?_⟩
  · rcases pu_mem hj with ⟨_, q⟩ | ⟨hji, q⟩
    · exact nomatch q
    · exact I.dis j i hji p q hp
  · obtain ⟨xs, q⟩ := I.mut i p hp
    rw [q]
    exact fun h => nomatch h
/-- a slot gets a value -/
theorem SI.put {i : Nat} (I : SI K ks G H σ Γ Φ) (hi : i < σ.length) (o : Own K ((kd ks i).g G) H F v d) (hf : (kd ks i).fr = true → F = []) (ho : kd ks i = .os → F ≠ []) (t : Tmp G H (pu Φ i []) F) : SI K ks G H (σ.set i (some v)) (Γ.set i (some d)) (pu Φ i F) := by
  have hi' : i < Γ.length := by
    rw [I.len]
    exact hi
  refine ⟨by rw [List.length_set, List.length_set]; exact I.len, by rw [List.length_set]; exact I.kl, fun j d' hj => ?_, fun j hj => ?_, fun j hj => ?_, fun j d' hj => ?_, fun j k hjk p hp => ?_, fun j p hp => ?_, I.gl⟩
  · by_cases hji : j = i
    · subst hji
      rw [List.getElem?_set_self hi'] at hj
      cases hj
      rw [pu_same]
      exact ⟨v, List.getElem?_set_self hi, o⟩
    · rw [List.getElem?_set_ne (Ne.symm hji)] at hj
      rw [pu_ne hji, List.getElem?_set_ne (Ne.symm hji)]
      exact I.slot j d' hj
  · by_cases hji : j = i
    · subst hji
      exact absurd (List.getElem?_set_self hi') (hj d)
    · rw [pu_ne hji]
      rw [List.getElem?_set_ne (Ne.symm hji)] at hj
      exact I.non j hj
  · by_cases hji : j = i
    · subst hji
      rw [pu_same]
      exact hf hj
    · rw [pu_ne hji]
      exact I.sh j hj
  · by_cases hji : j = i
    · subst hji
      rw [pu_same]
      exact ho
    · rw [List.getElem?_set_ne (Ne.symm hji)] at hj
      rw [pu_ne hji]
      exact I.os j d' hj
  · intro h
    rcases pu_mem hp with ⟨hj, q⟩ | ⟨hj, q⟩
    · rcases pu_mem h with ⟨hk, q'⟩ | ⟨hk, q'⟩
      · exact hjk (hj.trans hk.symm)
      · exact (t p q).2.1 k (by rw [pu_ne hk]; exact q')
    · rcases pu_mem h with ⟨hk, q'⟩ | ⟨hk, q'⟩
      · exact (t p q').2.1 j (by rw [pu_ne hj]; exact q)
      · exact I.dis j k hjk p q q'
  · rcases pu_mem hp with ⟨hj, q⟩ | ⟨hj, q⟩
    · exact (t p q).1
    · exact I.gd j p q

theorem upd_ex {p : Addr} {o : HO} (h : H p = none) : ∀ q u, H q = some u → upd H p o q = some u := fun q u e => by
  rw [upd_ne (ne_of_none e h)]
  exact e
end
end CW
/-! The terms (E, S) and what they compute on data trees. -/
namespace CW
open PySem L2

mutual
def eqD : D → D → Bool
  | .non, .non => true
  | .bl a, .bl b => a == b
  | .bl a, .int j => (if a then 1 else 0) == j
  | .int i, .bl b => i == (if b then 1 else 0)
  | .int i, .int j => i == j
  | .str x, .str y => x == y
  | .lst xs, .lst ys => eqDs xs ys
  | .tup xs, .tup ys => eqDs xs ys
  | _, _ => false
def eqDs : List D → List D → Bool
  | [], [] => true
  | x :: xs, y :: ys => eqD x y && eqDs xs ys
  | _, _ => false
end
/-- at most n within one another, texts as they should be -/
def D.shp : Nat → D → Bool
  | _, .non => true
  | _, .bl _ => true
  | _, .int _ => true
  | _, .str s => PyData.strOk s
  | n + 1, .tup ds => ds.all (D.shp n)
  | n + 1, .lst ds => ds.all (D.shp n)
  | _, .scr _ => false
  | _, .dct _ _ => false
  | _, .exn _ => false
  | 0, _ => false
def D.scal : D → Bool
  | .tup _ => false
  | .lst _ => false
  | .scr _ => false
  | .dct _ _ => false
  | .exn _ => false
  | _ => true
def intsOf : List D → Option (List Int)
  | [] => some []
  | .int i :: r => (intsOf r).map (i :: ·)
  | _ :: _ => none

inductive Bop where
  | add | sub | mul | fdiv | mod | pow
  deriving DecidableEq
inductive Cop where
  | eq | ne | lt | le | gt | ge | isin | notin | isn | notn
  deriving DecidableEq
/-- a thing that mere reckoning does not look into -/
noncomputable def shut {α : Type} (a : α) : α := Classical.choose (⟨a, rfl⟩ : ∃ x : α, x = a)
theorem shut_eq {α : Type} (a : α) : shut a = a := Classical.choose_spec (⟨a, rfl⟩ : ∃ x : α, x = a)
def mulOk0 (i j : Int) : Bool := (decide (-(2 ^ 64) < i) && decide (i < 2 ^ 64)) || (decide (-(2 ^ 64) < j) && decide (j < 2 ^ 64))
noncomputable def mulOk : Int → Int → Bool := shut mulOk0
theorem mulOk_eq : mulOk = mulOk0 := shut_eq _
def divOk0 (j : Int) : Bool := decide (0 < j) && decide (j < 2 ^ 128)
noncomputable def divOk : Int → Bool := shut divOk0
theorem divOk_eq : divOk = divOk0 := shut_eq _
def powOk0 (i j : Int) : Bool := decide (0 ≤ j) && decide (j ≤ 1000000) && decide (i.natAbs < 2 ^ 64)
noncomputable def powOk : Int → Int → Bool := shut powOk0
theorem powOk_eq : powOk = powOk0 := shut_eq _
noncomputable def Bop.sem : Bop → D → D → Option D
  | .add, .int i, .int j => some (.int (i + j))
  | .add, .str x, .str y => if x.length + y.length ≤ sizeLine then some (.str (x ++ y)) else none
  | .sub, .int i, .int j => some (.int (i - j))
  | .mul, .int i, .int j => if mulOk i j then some (.int (i * j)) else none
  | .fdiv, .int i, .int j => if divOk j then some (.int (i / j)) else none
  | .mod, .int i, .int j => if 0 < j then some (.int (i % j)) else none
  | .pow, .int i, .int j => if powOk i j then some (.int (i ^ j.toNat)) else none
  | _, _, _ => none
def notScr : D → Bool
  | .scr _ => false
  | .exn _ => false
  | _ => true
/-- one side is [], or a tuple of ints, or both are texts -/
def eqX : D → D → Bool
  | .lst _, .lst [] => true
  | .tup xs, .tup ys => (intsOf ys).isSome && xs.all notScr
  | .str _, .str _ => true
  | _, _ => false
def eqOk (a b : D) : Bool := (a.shp 64 && b.shp 64) || eqX a b
def Cop.sem : Cop → D → D → Option Bool
  | .eq, a, b => if eqOk a b then some (eqD a b) else none
  | .ne, a, b => if eqOk a b then some (!eqD a b) else none
  | .isin, a, .lst ds => if a.shp 64 && (D.lst ds).shp 64 then some (ds.any fun z => eqD z a) else none
  | .notin, a, .lst ds => if a.shp 64 && (D.lst ds).shp 64 then some (!ds.any fun z => eqD z a) else none
  | .isn, a, .non => match a with | .non => some true | _ => some false
  | .notn, a, .non => match a with | .non => some false | _ => some true
  | .isn, .bl a, .bl b => some (a == b)
  | .notn, .bl a, .bl b => some (!(a == b))
  | .lt, .int i, .int j => some (decide (i < j))
  | .le, .int i, .int j => some (decide (i ≤ j))
  | .gt, .int i, .int j => some (decide (j < i))
  | .ge, .int i, .int j => some (decide (j ≤ i))
  | .ge, .tup [.int i, .int j], .tup [.int k, .int l] => some (if i = k then decide (l ≤ j) else decide (k ≤ i))
  | .lt, .tup xs, .tup ys => match intsOf xs, intsOf ys with | some ns, some ms => some (HT.lexLt ns ms) | _, _ => none
  | _, _, _ => none

/-- built-ins that tell a scalar -/
inductive Bi where
  | len | abs | min2 | max2 | sum | int1 | isInt | isBool | isList | isTup | isStr | str1
  deriving DecidableEq
def isTy : Bi → D → Option Bool
  | _, .scr _ => none
  | _, .exn _ => none
  | .isInt, .int _ => some true
  | .isInt, .bl _ => some true
  | .isInt, _ => some false
  | .isBool, .bl _ => some true
  | .isBool, _ => some false
  | .isList, .lst _ => some true
  | .isList, _ => some false
  | .isTup, .tup _ => some true
  | .isTup, _ => some false
  | .isStr, .str _ => some true
  | .isStr, _ => some false
  | _, _ => none
def Bi.sem : Bi → List D → Option D
  | .len, [.lst ds] => some (.int ds.length)
  | .len, [.tup ds] => some (.int ds.length)
  | .len, [.scr ns] => some (.int ns.length)
  | .len, [.str s] => if s.length ≤ sizeLine then some (.int s.length) else none
  | .abs, [.int i] => some (.int (if i < 0 then -i else i))
  | .min2, [.int i, .int j] => some (.int (if j < i then j else i))
  | .max2, [.int i, .int j] => some (.int (if i < j then j else i))
  | .sum, [.lst ds] => (intsOf ds).map fun ns => .int ns.sum
  | .int1, [.int i] => some (.int i)
  | .int1, [.bl b] => some (.int (if b then 1 else 0))
  | .str1, [.int i] => if i.natAbs.log2 < 1920 then some (.str (toString i)) else none
  | .isInt, [d] => (isTy .isInt d).map .bl
  | .isBool, [d] => (isTy .isBool d).map .bl
  | .isList, [d] => (isTy .isList d).map .bl
  | .isTup, [d] => (isTy .isTup d).map .bl
  | .isStr, [d] => (isTy .isStr d).map .bl
  | _, _ => none

/-- lists made of a list's items -/
inductive Mk where
  | list | sorted
  deriving DecidableEq

inductive Tg where
  | nm (i : Nat) (ck : Bool)
  | tup (ts : List Tg)

inductive E where
  | var (i : Nat)
  | mv (i : Nat)
  | cn (d : D)
  | chk (e : E)
  | bin (o : Bop) (a b : E)
  | neg (a : E)
  | cmp (o : Cop) (a b : E)
  | chain (o o' : Cop) (a b c : E)
  | and (a b : E)
  | or (a b : E)
  | not (a : E)
  | tup (es : List E)
  | lst (es : List E)
  | ix (a i : E)
  | cat (ck : Bool) (a b : E)
  | rep (ck : Bool) (a b : E)
  | sl (ck : Bool) (a : E) (lo hi : Option E)
  | sls (a : E) (lo hi : Option E)
  | rev (ck : Bool) (a : E)
  | bi (b : Bi) (es : List E)
  | mk (o : Mk) (ck : Bool) (a : E)
  | rng (es : List E)
  | lcl (tp : Bool) (own : List Nat) (tg : Tg) (src : E) (c : Option E) (elt : E)
  | lcr (own : List Nat) (tg : Tg) (es : List E) (c : Option E) (elt : E)
  | call (f : Nat) (es : List E) (io : List (Nat × Nat))
  | pop (x : Nat) (i : Option E)
  | tupM (xs : List Nat) (es : List E)
  | tupI (es : List E) (x : Nat)
  | dnew
  | dget (a k : E)
  | lce (own : List Nat) (tg : Tg) (src : E) (c : Option E) (elt : E)
  | srt (a : E)
  | mx (a : E)
  | dof (a : E)
  | dvl (a : E)
  | tpl (ck : Bool) (a : E)
  | rpr (a : E)
  /-- isinstance with a class of what is refused: for which classes it is so, for which not -/
  | isx (ys ns : List Nat) (a : E)
  /-- a list once or not at all -/
  | rp1 (a b : E)
  /-- [elt for tg in zip(a, b) if c] -/
  | lcz (own : List Nat) (tg : Tg) (a b : E) (c : Option E) (elt : E)

inductive S where
  | asg (i : Nat) (e : E)
  | asgT (ts : List Tg) (e : E)
  | par (i j : Nat) (a b : E)
  | aug (i : Nat) (o : Bop) (e : E)
  | setp (x : Nat) (path : List E) (i e : E)
  | app (x : Nat) (e : E)
  | ext (x : Nat) (e : E)
  | ex (e : E)
  | ite (c : E) (a b : List S)
  | forl (tp : Bool) (tg : Tg) (src : E) (body : List S)
  | forr (tg : Tg) (es : List E) (body : List S)
  | wh (c : E) (body : List S)
  | ret (e : E)
  | brk
  | pass
  | raise (c : Nat)
  | drop (x : Nat)
  | dput (x : Nat) (k e : E)
  | setq (x : Nat) (path : List E) (i e : E)
  | appp (x : Nat) (path : List E) (e : E)
  | clrp (x : Nat) (path : List E)
  | fapp (x : Nat) (path : List E) (y : Nat) (c : Int)
  | fore (tg : Tg) (src : E) (body : List S)
  | dputp (x : Nat) (path : List E) (k e : E)
  | form1 (y x : Nat) (body : List S)
  | forz (tg : Tg) (a b : E) (body : List S)
  | borS (ys : List Nat) (s : S)
  | reK (y : Nat) (s : S)
  /-- try: body, except ClimbError as e: x = e -/
  | tryK (x e : Nat) (cs : List Nat) (body : List S)

inductive R (α : Type) where
  | ok (a : α) (Γ : Env)
  | exc (c : Nat) (Γ : Env)
  | bad
def R.bind {α β : Type} (r : R α) (k : α → Env → R β) : R β := match r with
  | .ok a Γ => k a Γ
  | .exc c Γ => .exc c Γ
  | .bad => .bad
def R.ofo {α : Type} (o : Option α) (Γ : Env) : R α := match o with
  | some a => .ok a Γ
  | none => .bad
section
variable {α β : Type}
@[simp] theorem bind_ok (a : α) (Γ : Env) (k : α → Env → R β) : (R.ok a Γ).bind k = k a Γ := rfl
@[simp] theorem bind_exc (c : Nat) (Γ : Env) (k : α → Env → R β) : (R.exc c Γ).bind k = .exc c Γ := rfl
@[simp] theorem bind_bad (k : α → Env → R β) : (R.bad).bind k = .bad := rfl
@[simp] theorem ofo_some (a : α) (Γ : Env) : R.ofo (some a) Γ = .ok a Γ := rfl
@[simp] theorem ofo_none (Γ : Env) : R.ofo (none : Option α) Γ = .bad := rfl
end
inductive RF where
  | ok (d : D) (outs : List D)
  | exc (c : Nat) (outs : List D)
  | bad
structure FEnv where
  f : Nat → List D → RF
  fuel : Nat

def get (Γ : Env) (i : Nat) : Option D := (Γ[i]?).join
def put (Γ : Env) (i : Nat) (d : D) : Env := Γ.set i (some d)
/-- a list stands there -/
def lsAt (Γ : Env) (x : Nat) : R Unit := match get Γ x with
  | some (.lst _) => .ok () Γ
  | _ => .bad
/-- something stands there -/
def hasI : List Nat → Env → R Unit
  | [], Γ => .ok () Γ
  | i :: is, Γ => match get Γ i with
    | some _ => hasI is Γ
    | none => .bad
/-- names given up, one after another -/
def mvI : List Nat → Env → R (List D)
  | [], Γ => .ok [] Γ
  | i :: is, Γ => (R.ofo (get Γ i) Γ).bind fun d Γ => (mvI is (Γ.set i none)).bind fun ds Γ => .ok (d :: ds) Γ
/-- what a call has changed: (the parameter, the name here) -/
def putP : Env → List (Nat × Nat) → List D → Env
  | Γ, [], _ => Γ
  | Γ, (i, x) :: r, outs => putP (match outs[i]? with | some d => put Γ x d | none => Γ) r outs
/-- a comprehension's own names -/
def wipeE : Env → List Nat → Env
  | Γ, [] => Γ
  | Γ, i :: is => (wipeE Γ is).set i none
/-- back to what the def's names held -/
def backE (Γ0 : Env) : Env → List Nat → Env
  | Γ, [] => Γ
  | Γ, i :: is => (backE Γ0 Γ is).set i (Γ0[i]?).join

mutual
/-- a target gets a value -/
def Tg.bind : Tg → D → Env → Option Env
  | .nm i ck, d, Γ => if !ck || d.imm then some (put Γ i d) else none
  | .tup ts, .tup ds, Γ => Tg.binds ts ds Γ
  | .tup _, _, _ => none
def Tg.binds : List Tg → List D → Env → Option Env
  | [], [], Γ => some Γ
  | t :: ts, d :: ds, Γ => (Tg.bind t d Γ).bind fun Γ' => Tg.binds ts ds Γ'
  | _, _, _ => none
end

def atD : D → D → Option D
  | .lst ds, .int i => atI ds i
  | .tup ds, .int i => atI ds i
  | .scr ns, .int i => (atI ns i).map .int
  | .str s, .int i => if s.length ≤ sizeLine then (atI s.cps.toList i).map fun c => .str ⟨#[c]⟩ else none
  | _, _ => none
def cutD (ds : List D) (lo hi : Option Int) : List D := (ds.drop (HT.sIx ds.length 0 lo)).take (HT.sIx ds.length ds.length hi - HT.sIx ds.length 0 lo)
def okL (ck : Bool) (ds : List D) : Option D := if !ck || ds.all D.imm then some (.lst ds) else none
def toInt : D → Option Int
  | .int i => some i
  | _ => none
def catD (ck : Bool) : D → D → Option D
  | .lst a, .lst b => if a.length + b.length ≤ sizeLine then okL ck (a ++ b) else none
  | _, _ => none
def repR0 (n : Nat) (k : Int) : Bool := decide (n * k.toNat ≤ sizeLine ∧ k < 2 ^ 63 ∧ -(2 ^ 63) ≤ k)
noncomputable def repR : Nat → Int → Bool := shut repR0
theorem repR_eq : repR = repR0 := shut_eq _
noncomputable def repD (ck : Bool) : D → D → Option D
  | .lst a, .int k => if repR a.length k then okL ck (List.replicate k.toNat a).flatten else none
  | _, _ => none
def rngD0 : List D → Option (Int × Nat)
  | [.int n] => if 0 ≤ n + sizeLine ∧ n ≤ sizeLine then some (0, n.toNat) else none
  | [.int a, .int b] => if -(2 ^ 62) ≤ a ∧ a < 2 ^ 62 ∧ -(2 ^ 62) ≤ b ∧ b < 2 ^ 62 ∧ b - a ≤ sizeLine then some (a, (b - a).toNat) else none
  | _ => none
/-- the same, never looked into by mere reckoning -/
noncomputable def rngD : List D → Option (Int × Nat) := shut rngD0
theorem rngD_eq : rngD = rngD0 := shut_eq _
/-- items by pairs of ints, rising -/
def pairOf : D → Option (Int × Int)
  | .tup [.int i, .int j] => some (i, j)
  | _ => none
def pairsOf : List D → Option (List (Int × Int))
  | [] => some []
  | d :: r => (pairOf d).bind fun p => (pairsOf r).map (p :: ·)
def leP (p q : Int × Int) : Bool := decide (p.1 < q.1) || (decide (p.1 = q.1) && decide (p.2 ≤ q.2))
/-- a key, told as data -/
def keyD (k : List Key) : D := .tup (k.map fun | .inl i => .int i | .inr s => .str s)
def keyOf1 : D → Option Key
  | .int i => some (.inl i)
  | .str s => some (.inr s)
  | _ => none
def keysOf : List D → Option (List Key)
  | [] => some []
  | d :: r => (keyOf1 d).bind fun k => (keysOf r).map (k :: ·)
def keyOf : D → Option (List Key)
  | .tup ds => keysOf ds
  | _ => none
/-- a value stored under a key: in its place, or at the end -/
def putS {α : Type} (ks : List (List Key)) (vs : List α) (k : List Key) (v : α) : List (List Key) × List α :=
  if (ks.any fun q => decide (q = k)) = true then (ks, (ks.zip vs).map fun p => if p.1 = k then v else p.2) else (ks ++ [k], vs ++ [v])
def sortD (ds : List D) : Option (List D) := match intsOf ds with
  | some ns => some ((ns.mergeSort (fun a b => decide (a ≤ b))).map .int)
  | none => (pairsOf ds).map fun ps => (ps.mergeSort leP).map fun p => .tup [.int p.1, .int p.2]
def Mk.sem (ck : Bool) : Mk → D → Option D
  | .list, .lst ds => okL ck ds
  | .list, .tup ds => okL ck ds
  | .sorted, .lst ds => (sortD ds).bind (okL ck)
  | .sorted, .dct ks _ => if ks.length < 64 then (pairsOf (ks.map keyD)).map fun ps => .lst ((ps.mergeSort leP).map fun p => .tup [.int p.1, .int p.2]) else none
  | _, _ => none
def popR0 (i : Int) : Bool := decide (-(2 ^ 63) ≤ i ∧ i < 2 ^ 63)
noncomputable def popR : Int → Bool := shut popR0
theorem popR_eq : popR = popR0 := shut_eq _
noncomputable def popD : D → Option Int → Option (D × D)
  | .lst ds, none => (ds[ds.length - 1]?).map fun d => (d, .lst ds.dropLast)
  | .lst ds, some i => if popR i then (seqIndex? i ds.length).bind fun k => (ds[k]?).map fun d => (d, .lst (ds.eraseIdx k)) else none
  | _, _ => none

/-- the loop of a comprehension: what is made so far ahead -/
def compL (turn : D → Env → R (Option D)) : List D → List D → Env → R (List D)
  | [], acc, Γ => .ok acc.reverse Γ
  | d :: ds, acc, Γ => (turn d Γ).bind fun o Γ' => compL turn ds (match o with | some x => x :: acc | none => acc) Γ'
def rngL (a : Int) : Nat → List D := fun n => (List.range n).map fun (i : Nat) => .int (a + i)
/-- what a list (a tuple) walks -/
def itemsOf : Bool → D → Option (List D)
  | false, .lst ds => some ds
  | true, .tup ds => some ds
  | _, _ => none
/-- numbered -/
def numD (ds : List D) : List D := ds.zipIdx.map fun p => .tup [.int (p.2 : Nat), p.1]
/-- a list deep within gets other items -/
def modAt : D → List Int → List D → Option D
  | .lst _, [], es => some (.lst es)
  | .lst ds, i :: is, es => (ixN ds.length i).bind fun k => (ds[k]?).bind fun d => (modAt d is es).map fun d' => .lst (ds.set k d')
  | .tup ds, i :: is, es => (ixN ds.length i).bind fun k => (ds[k]?).bind fun d => (modAt d is es).map fun d' => .tup (ds.set k d')
  | _, _, _ => none
def pathD : D → List Int → Option D
  | d, [] => some d
  | .lst ds, i :: is => (atI ds i).bind fun d => pathD d is
  | .tup ds, i :: is => (atI ds i).bind fun d => pathD d is
  | _, _ :: _ => none
/-- an item put behind the list at a place -/
def appAt (t : D) (is : List Int) (d : D) : Option D := (pathD t is).bind fun z => match z with
  | .lst ds => if ds.length < sizeLine then modAt t is (ds ++ [d]) else none
  | _ => none
/-- an item put behind each of the lists -/
def appEach (c : D) : List D → Option (List D)
  | [] => some []
  | .lst es :: r => if es.length < sizeLine then (appEach c r).map (.lst (es ++ [c]) :: ·) else none
  | _ :: _ => none
def lsP (Γ : Env) (x : Nat) (ps : List D) : Option (List Int) := (intsOf ps).bind fun is => (get Γ x).bind fun t => (pathD t is).bind fun z => match z with
  | .lst _ => some is
  | _ => none
/-- what stands under a key -/
def getS : D → D → Option D
  | .dct ks vs, q => (keyOf q).bind fun k => ((ks.zip vs).find? fun p => decide (p.1 = k)).map (·.2)
  | _, _ => none
/-- two items of a list given up -/
def twoD : D → Option (List D)
  | .lst [a, b] => some [a, b]
  | _ => none
mutual
/-- built alike, of ints and tuples -/
def smD : D → D → Bool
  | .int _, .int _ => true
  | .tup xs, .tup ys => smDs xs ys
  | _, _ => false
def smDs : List D → List D → Bool
  | [], [] => true
  | x :: xs, y :: ys => smD x y && smDs xs ys
  | _, _ => false
end
mutual
/-- its ints in their order -/
def flD : D → List Int
  | .int i => [i]
  | .tup ds => flDs ds
  | _ => []
def flDs : List D → List Int
  | [] => []
  | d :: ds => flD d ++ flDs ds
end
def ltL : List Int → List Int → Bool
  | [], [] => false
  | [], _ :: _ => true
  | _ :: _, [] => false
  | x :: xs, y :: ys => if x = y then ltL xs ys else decide (x < y)
def leA (a b : D) : Bool := !ltL (flD b) (flD a)
def neT : D → Bool
  | .tup (_ :: _) => true
  | _ => false
/-- a list of tuples of one build, sorted -/
def srtD : D → Option D
  | .lst ds => if ds.all (fun d => neT d && d.shp 8 && ds.all (smD d)) then okL true (ds.mergeSort leA) else none
  | _ => none
def maxI : List Int → Option Int
  | [] => none
  | n :: ns => some (ns.foldl (fun a b => if a < b then b else a) n)
def maxD : D → Option D
  | .lst ds => (intsOf ds).bind fun ns => (maxI ns).map .int
  | _ => none
def kvOf : List D → Option (List (List Key × D))
  | [] => some []
  | .tup [k, v] :: r => (keyOf k).bind fun q => (kvOf r).map ((q, v) :: ·)
  | _ :: _ => none
/-- a dict of pairs, no key twice -/
def dofD : D → Option D
  | .lst ds => (kvOf ds).bind fun kv => if (kv.map (·.1)).Nodup then some (.dct (kv.map (·.1)) (kv.map (·.2))) else none
  | _ => none
def dvlD : D → Option D
  | .dct _ vs => okL true vs
  | _ => none
def tplD (ck : Bool) : D → Option D
  | .lst ds => if !ck || ds.all D.imm then some (.tup ds) else none
  | _ => none
def kyP : Key → PyData
  | .inl i => .int i
  | .inr s => .str s
mutual
/-- the data that a thing shows -/
def D.py : D → PyData
  | .non => .none
  | .bl b => .bool b
  | .int i => .int i
  | .str s => .str s
  | .tup ds => .tuple (D.pys ds)
  | .lst ds => .list (D.pys ds)
  | .scr _ => .none
  | .exn _ => .none
  | .dct ks vs => .dict ((ks.map fun k => PyData.tuple (k.map kyP)).zip (D.pys vs))
def D.pys : List D → List PyData
  | [] => []
  | d :: ds => d.py :: D.pys ds
end
mutual
/-- no script within -/
def D.nos : D → Bool
  | .scr _ => false
  | .exn _ => false
  | .tup ds => D.noss ds
  | .lst ds => D.noss ds
  | .dct _ vs => D.noss vs
  | _ => true
def D.noss : List D → Bool
  | [] => true
  | d :: ds => d.nos && D.noss ds
end
def repOk0 (d : D) : Bool := d.nos && d.py.showable && decide (d.py.depth ≤ 64) && decide (d.py.shown.length ≤ sizeLine)
noncomputable def repOk : D → Bool := shut repOk0
theorem repOk_eq : repOk = repOk0 := shut_eq _
/-- what repr tells -/
noncomputable def shownD : D → Str := shut fun d => d.py.shown
theorem shownD_eq : shownD = fun d => d.py.shown := shut_eq _
noncomputable def rprD (d : D) : Option D := if repOk d then some (.str (shownD d)) else none
/-- items side by side -/
def zipD (a b : List D) : List D := List.zipWith (fun x y => .tup [x, y]) a b
def zipK : D → D → Option (List D)
  | .lst ds, .lst es => if ds.length = es.length then some (zipD ds es) else none
  | _, _ => none
def rp1D : D → D → Option D
  | .lst ds, .int k => if k = 1 then some (.lst ds) else if k = 0 then some (.lst []) else none
  | _, _ => none
def isxD (ys ns : List Nat) : D → Option D
  | .exn c => if c ∈ ys then some (.bl true) else if c ∈ ns then some (.bl false) else none
  | .non => some (.bl false)
  | _ => none
/-- another thing at a place -/
def repAt : D → List Int → D → Option D
  | _, [], e => some e
  | .lst ds, i :: is, e => (ixN ds.length i).bind fun k => (ds[k]?).bind fun d => (repAt d is e).map fun d' => .lst (ds.set k d')
  | .tup ds, i :: is, e => (ixN ds.length i).bind fun k => (ds[k]?).bind fun d => (repAt d is e).map fun d' => .tup (ds.set k d')
  | _, _, _ => none
def putD (key : List Key) (d : D) : D → Option D
  | .dct ks vs => if vs.all D.imm && d.imm && decide (ks.length < sizeLine) then some (.dct (putS ks vs key d).1 (putS ks vs key d).2) else none
  | _ => none
def noExc {α : Type} : R α → R α
  | .ok a Γ => .ok a Γ
  | _ => .bad

noncomputable section
mutual
def evE (φ : FEnv) : E → Env → R D
  | .var i, Γ => R.ofo (get Γ i) Γ
  | .mv i, Γ => (R.ofo (get Γ i) Γ).bind fun d Γ => .ok d (Γ.set i none)
  | .cn d, Γ => .ok d Γ
  | .chk e, Γ => (evE φ e Γ).bind fun d Γ => if d.imm then .ok d Γ else .bad
  | .bin o a b, Γ => (evE φ a Γ).bind fun x Γ => (evE φ b Γ).bind fun y Γ => R.ofo (o.sem x y) Γ
  | .neg a, Γ => (evE φ a Γ).bind fun x Γ => R.ofo ((toInt x).map fun i => .int (-i)) Γ
  | .cmp o a b, Γ => (evE φ a Γ).bind fun x Γ => (evE φ b Γ).bind fun y Γ => R.ofo ((o.sem x y).map .bl) Γ
  | .chain o o' a b c, Γ => (evE φ a Γ).bind fun x Γ => (evE φ b Γ).bind fun y Γ => (R.ofo (o.sem x y) Γ).bind fun k Γ =>
      if k then (evE φ c Γ).bind fun z Γ => R.ofo ((o'.sem y z).map .bl) Γ else .ok (.bl false) Γ
  | .and a b, Γ => (evE φ a Γ).bind fun x Γ => match x with
      | .bl true => (evE φ b Γ).bind fun y Γ => match y with | .bl c => .ok (.bl c) Γ | _ => .bad
      | .bl false => .ok (.bl false) Γ
      | _ => .bad
  | .or a b, Γ => (evE φ a Γ).bind fun x Γ => match x with
      | .bl false => (evE φ b Γ).bind fun y Γ => match y with | .bl c => .ok (.bl c) Γ | _ => .bad
      | .bl true => .ok (.bl true) Γ
      | _ => .bad
  | .not a, Γ => (evE φ a Γ).bind fun x Γ => match x with | .bl c => .ok (.bl (!c)) Γ | _ => .bad
  | .tup es, Γ => (evEs φ es Γ).bind fun ds Γ => .ok (.tup ds) Γ
  | .lst es, Γ => (evEs φ es Γ).bind fun ds Γ => .ok (.lst ds) Γ
  | .ix a i, Γ => (evE φ a Γ).bind fun x Γ => (evE φ i Γ).bind fun y Γ => R.ofo (atD x y) Γ
  | .cat ck a b, Γ => (evE φ a Γ).bind fun x Γ => (evE φ b Γ).bind fun y Γ => R.ofo (catD ck x y) Γ
  | .rep ck a b, Γ => (evE φ a Γ).bind fun x Γ => (evE φ b Γ).bind fun y Γ => R.ofo (repD ck x y) Γ
  | .sl ck a lo hi, Γ => (evE φ a Γ).bind fun x Γ => (evO φ lo Γ).bind fun l Γ => (evO φ hi Γ).bind fun h Γ => match x with
      | .lst ds => R.ofo (okL ck (cutD ds l h)) Γ
      | .scr ns => R.ofo (okL ck (cutD (ns.map .int) l h)) Γ
      | _ => .bad
  | .sls a lo hi, Γ => (evE φ a Γ).bind fun x Γ => (evO φ lo Γ).bind fun l Γ => (evO φ hi Γ).bind fun h Γ => match x with
      | .str s => if s.length ≤ sizeLine then .ok (.str (cutS s l h)) Γ else .bad
      | _ => .bad
  | .rev ck a, Γ => (evE φ a Γ).bind fun x Γ => match x with
      | .lst ds => R.ofo (okL ck ds.reverse) Γ
      | _ => .bad
  | .bi b es, Γ => (evEs φ es Γ).bind fun ds Γ => R.ofo (b.sem ds) Γ
  | .mk o ck a, Γ => (evE φ a Γ).bind fun x Γ => R.ofo (o.sem ck x) Γ
  | .rng es, Γ => (evEs φ es Γ).bind fun ds Γ => (R.ofo (rngD ds) Γ).bind fun p Γ => .ok (.lst (rngL p.1 p.2)) Γ
  | .lcl tp own tg src c elt, Γ => (evE φ src Γ).bind fun x Γ1 => (R.ofo (itemsOf tp x) Γ1).bind fun ds Γ1 => (compL (fun d Γ => noExc ((R.ofo (Tg.bind tg d (wipeE Γ own)) Γ).bind fun Γ _ => (evC φ c Γ).bind fun k Γ => if k then (evE φ elt Γ).bind fun y Γ => .ok (some y) Γ else .ok none Γ)) ds [] (wipeE Γ1 own)).bind fun ys Γ2 => .ok (.lst ys) (backE Γ1 Γ2 own)
  | .lcr own tg es c elt, Γ => (evEs φ es Γ).bind fun ds Γ => (R.ofo (rngD ds) Γ).bind fun p Γ1 =>
      (compL (fun d Γ => noExc ((R.ofo (Tg.bind tg d (wipeE Γ own)) Γ).bind fun Γ _ => (evC φ c Γ).bind fun k Γ => if k then (evE φ elt Γ).bind fun y Γ => .ok (some y) Γ else .ok none Γ)) (rngL p.1 p.2) [] (wipeE Γ1 own)).bind fun ys Γ2 => .ok (.lst ys) (backE Γ1 Γ2 own)
  | .call f es io, Γ => (evEs φ es Γ).bind fun ds Γ => match φ.f f ds with
      | .ok d outs => .ok d (putP Γ io outs)
      | .exc c outs => .exc c (putP Γ io outs)
      | .bad => .bad
  | .pop x i, Γ => (lsAt Γ x).bind fun _ Γ => (evO φ i Γ).bind fun o Γ => (R.ofo ((get Γ x).bind fun d => popD d o) Γ).bind fun p Γ => .ok p.1 (put Γ x p.2)
  | .tupM xs es, Γ => (hasI xs Γ).bind fun _ Γ => (evEs φ es Γ).bind fun ds Γ => (mvI xs Γ).bind fun ds' Γ => .ok (.tup (ds' ++ ds)) Γ
  | .tupI es x, Γ => (evEs φ es Γ).bind fun ds Γ => (R.ofo ((get Γ x).bind twoD) Γ).bind fun zs Γ => .ok (.tup (ds ++ zs)) (Γ.set x none)
  | .dnew, Γ => .ok (.dct [] []) Γ
  | .dget a k, Γ => (evE φ a Γ).bind fun x Γ => (evE φ k Γ).bind fun y Γ => R.ofo (getS x y) Γ
  | .lce own tg src c elt, Γ => (evE φ src Γ).bind fun x Γ1 => (R.ofo (itemsOf false x) Γ1).bind fun ds Γ1 => (compL (fun d Γ => noExc ((R.ofo (Tg.bind tg d (wipeE Γ own)) Γ).bind fun Γ _ => (evC φ c Γ).bind fun k Γ => if k then (evE φ elt Γ).bind fun y Γ => .ok (some y) Γ else .ok none Γ)) (numD ds) [] (wipeE Γ1 own)).bind fun ys Γ2 => .ok (.lst ys) (backE Γ1 Γ2 own)
  | .srt a, Γ => (evE φ a Γ).bind fun x Γ => R.ofo (srtD x) Γ
  | .mx a, Γ => (evE φ a Γ).bind fun x Γ => R.ofo (maxD x) Γ
  | .dof a, Γ => (evE φ a Γ).bind fun x Γ => R.ofo (dofD x) Γ
  | .dvl a, Γ => (evE φ a Γ).bind fun x Γ => R.ofo (dvlD x) Γ
  | .tpl ck a, Γ => (evE φ a Γ).bind fun x Γ => R.ofo (tplD ck x) Γ
  | .rpr a, Γ => (evE φ a Γ).bind fun x Γ => R.ofo (rprD x) Γ
  | .rp1 a b, Γ => (evE φ a Γ).bind fun x Γ => (evE φ b Γ).bind fun y => R.ofo (rp1D x y)
  | .lcz own tg a b c elt, Γ => (evE φ a Γ).bind fun x Γ1 => (evE φ b Γ1).bind fun y Γ1 => (R.ofo (zipK x y) Γ1).bind fun ds Γ1 => (compL (fun d Γ => noExc ((R.ofo (Tg.bind tg d (wipeE Γ own)) Γ).bind fun Γ _ => (evC φ c Γ).bind fun k Γ => if k then (evE φ elt Γ).bind fun y Γ => .ok (some y) Γ else .ok none Γ)) ds [] (wipeE Γ1 own)).bind fun ys Γ2 => .ok (.lst ys) (backE Γ1 Γ2 own)
  | .isx ys ns a, Γ => (evE φ a Γ).bind fun x Γ => R.ofo (isxD ys ns x) Γ
def evEs (φ : FEnv) : List E → Env → R (List D)
  | [], Γ => .ok [] Γ
  | e :: es, Γ => (evE φ e Γ).bind fun d Γ => (evEs φ es Γ).bind fun ds Γ => .ok (d :: ds) Γ
def evO (φ : FEnv) : Option E → Env → R (Option Int)
  | none, Γ => .ok none Γ
  | some e, Γ => (evE φ e Γ).bind fun d Γ => R.ofo ((toInt d).map some) Γ
def evC (φ : FEnv) : Option E → Env → R Bool
  | none, Γ => .ok true Γ
  | some e, Γ => (evE φ e Γ).bind fun d Γ => match d with | .bl k => .ok k Γ | _ => .bad
end

def augSem : Bop → D → D → Option D
  | .add, .int i, .int j => some (.int (i + j))
  | .sub, .int i, .int j => some (.int (i - j))
  | _, _, _ => none
/-- a statement's end -/
inductive SR where
  | nx (Γ : Env)
  | rt (d : D) (Γ : Env)
  | bk (Γ : Env)
  | exc (c : Nat) (Γ : Env)
  | bad
def SR.seq (r : SR) (k : Env → SR) : SR := match r with
  | .nx Γ => k Γ
  | r => r
def R.toS {α : Type} (r : R α) (k : α → Env → SR) : SR := match r with
  | .ok a Γ => k a Γ
  | .exc c Γ => .exc c Γ
  | .bad => .bad
@[simp] theorem toS_ok {α : Type} (a : α) (Γ : Env) (k : α → Env → SR) : (R.ok a Γ).toS k = k a Γ := rfl
@[simp] theorem toS_exc {α : Type} (c : Nat) (Γ : Env) (k : α → Env → SR) : (R.exc c Γ : R α).toS k = .exc c Γ := rfl
@[simp] theorem toS_bad {α : Type} (k : α → Env → SR) : (R.bad : R α).toS k = .bad := rfl
@[simp] theorem seq_nx (Γ : Env) (k : Env → SR) : (SR.nx Γ).seq k = k Γ := rfl
@[simp] theorem seq_rt (d : D) (Γ : Env) (k : Env → SR) : (SR.rt d Γ).seq k = .rt d Γ := rfl
@[simp] theorem seq_bk (Γ : Env) (k : Env → SR) : (SR.bk Γ).seq k = .bk Γ := rfl
@[simp] theorem seq_exc (c : Nat) (Γ : Env) (k : Env → SR) : (SR.exc c Γ).seq k = .exc c Γ := rfl
@[simp] theorem seq_bad (k : Env → SR) : (SR.bad).seq k = .bad := rfl
def forL (turn : D → Env → SR) : List D → Env → SR
  | [], Γ => .nx Γ
  | d :: ds, Γ => match turn d Γ with
      | .nx Γ => forL turn ds Γ
      | .bk Γ => .nx Γ
      | r => r
def whN (test : Env → R Bool) (body : Env → SR) : Nat → Env → SR
  | 0, _ => .bad
  | n + 1, Γ => (test Γ).toS fun k Γ => if k then (match body Γ with
      | .nx Γ => whN test body n Γ
      | .bk Γ => .nx Γ
      | r => r) else .nx Γ
/-- each item of the list at x given up to y while the body runs -/
def formL (turn : Env → SR) (y x : Nat) : List D → List D → Env → SR
  | [], acc, Γ => .nx (put Γ x (.lst acc))
  | d :: ds, acc, Γ => match turn (put Γ y d) with
      | .nx Γ' => match get Γ' y with
          | some d' => formL turn y x ds (acc ++ [d']) (Γ'.set y none)
          | none => .bad
      | .rt z Γ' => .rt z Γ'
      | .exc c Γ' => .exc c Γ'
      | _ => .bad
def SR.wiped (r : SR) (ys : List Nat) : SR := match r with
  | .nx Γ => .nx (wipeE Γ ys)
  | .rt d Γ => .rt d (wipeE Γ ys)
  | .exc c Γ => .exc c (wipeE Γ ys)
  | _ => .bad
def SR.caught (r : SR) (x e : Nat) (cs : List Nat) : SR := match r with
  | .nx Γ => .nx Γ
  | .exc c Γ => if c ∈ cs then .nx ((put Γ x (.exn c)).set e none) else .bad
  | _ => .bad
/-- x[p1][p2].. changed -/
def setAt : D → List Int → D → Option D
  | _, [], e => some e
  | .lst ds, i :: is, e => (ixN ds.length i).bind fun k => (ds[k]?).bind fun d => (setAt d is e).map fun d' => .lst (ds.set k d')
  | .tup ds, i :: j :: is, e => (ixN ds.length i).bind fun k => (ds[k]?).bind fun d => (setAt d (j :: is) e).map fun d' => .tup (ds.set k d')
  | _, _, _ => none
def toInts : List D → Option (List Int) := intsOf

mutual
def evS (φ : FEnv) : S → Env → SR
  | .asg i e, Γ => (evE φ e Γ).toS fun d Γ => .nx (put Γ i d)
  | .asgT ts e, Γ => (evE φ e Γ).toS fun d Γ => (R.ofo (Tg.bind (.tup ts) d Γ) Γ).toS fun Γ _ => .nx Γ
  | .par i j a b, Γ => (evE φ a Γ).toS fun x Γ => (evE φ b Γ).toS fun y Γ => .nx (put (put Γ i x) j y)
  | .aug i o e, Γ => (R.ofo (get Γ i) Γ).toS fun x Γ => (evE φ e Γ).toS fun y Γ => (R.ofo (augSem o x y) Γ).toS fun z Γ => .nx (put Γ i z)
  | .setp x path i e, Γ => (evE φ e Γ).toS fun d Γ => (evEs φ path Γ).toS fun ps Γ => (evE φ i Γ).toS fun k Γ => (R.ofo ((intsOf (ps ++ [k])).bind fun is => (get Γ x).bind fun t => setAt t is d) Γ).toS fun t Γ => .nx (put Γ x t)
  | .app x e, Γ => (lsAt Γ x).toS fun _ Γ => (evE φ e Γ).toS fun d Γ => match get Γ x with
      | some (.lst ds) => if ds.length < sizeLine then .nx (put Γ x (.lst (ds ++ [d]))) else .bad
      | _ => .bad
  | .ext x e, Γ => (lsAt Γ x).toS fun _ Γ => (evE φ e Γ).toS fun d Γ => match get Γ x, d with
      | some (.lst ds), .lst es => if ds.length + es.length ≤ sizeLine then .nx (put Γ x (.lst (ds ++ es))) else .bad
      | _, _ => .bad
  | .ex e, Γ => (evE φ e Γ).toS fun _ Γ => .nx Γ
  | .ite c a b, Γ => (evC φ (some c) Γ).toS fun k Γ => if k then evSs φ a Γ else evSs φ b Γ
  | .forl tp tg src body, Γ => (evE φ src Γ).toS fun x Γ => (R.ofo (itemsOf tp x) Γ).toS fun ds Γ => forL (fun d Γ => (R.ofo (Tg.bind tg d Γ) Γ).toS fun Γ _ => evSs φ body Γ) ds Γ
  | .forr tg es body, Γ => (evEs φ es Γ).toS fun ds Γ => (R.ofo (rngD ds) Γ).toS fun p Γ => forL (fun d Γ => (R.ofo (Tg.bind tg d Γ) Γ).toS fun Γ _ => evSs φ body Γ) (rngL p.1 p.2) Γ
  | .wh c body, Γ => whN (fun Γ => evC φ (some c) Γ) (fun Γ => evSs φ body Γ) φ.fuel Γ
  | .ret e, Γ => (evE φ e Γ).toS fun d Γ => .rt d Γ
  | .brk, Γ => .bk Γ
  | .pass, Γ => .nx Γ
  | .raise c, Γ => .exc c Γ
  | .drop x, Γ => .nx (Γ.set x none)
  | .dput x k e, Γ => (evE φ e Γ).toS fun d Γ => (evE φ k Γ).toS fun q Γ => (R.ofo ((keyOf q).bind fun key => (get Γ x).bind fun t => match t with
      | .dct ks vs => if vs.all D.imm && d.imm && decide (ks.length < sizeLine) then (let r := putS ks vs key d; some (D.dct r.1 r.2)) else none
      | _ => none) Γ).toS fun t Γ => .nx (put Γ x t)
  | .setq x path i e, Γ => (evE φ e Γ).toS fun d Γ => (evEs φ path Γ).toS fun ps Γ => (R.ofo (lsP Γ x ps) Γ).toS fun is Γ => (evE φ i Γ).toS fun k Γ => (R.ofo ((toInt k).bind fun k => (get Γ x).bind fun t => setAt t (is ++ [k]) d) Γ).toS fun t Γ => .nx (put Γ x t)
  | .appp x path e, Γ => (evEs φ path Γ).toS fun ps Γ => (R.ofo (lsP Γ x ps) Γ).toS fun is Γ => (evE φ e Γ).toS fun d Γ => (R.ofo ((get Γ x).bind fun t => appAt t is d) Γ).toS fun t Γ => .nx (put Γ x t)
  | .clrp x path, Γ => (evEs φ path Γ).toS fun ps Γ => (R.ofo (lsP Γ x ps) Γ).toS fun is Γ => (R.ofo ((get Γ x).bind fun t => modAt t is []) Γ).toS fun t Γ => .nx (put Γ x t)
  | .fapp x path y c, Γ => (evEs φ path Γ).toS fun ps Γ => (R.ofo (lsP Γ x ps) Γ).toS fun is Γ => (R.ofo ((get Γ x).bind fun t => (pathD t is).bind fun z => match z with
      | .lst ds => (appEach (.int c) ds).bind fun ds' => modAt t is ds'
      | _ => none) Γ).toS fun t Γ => .nx ((put Γ x t).set y none)
  | .fore tg src body, Γ => (evE φ src Γ).toS fun x Γ => (R.ofo (itemsOf false x) Γ).toS fun ds Γ => forL (fun d Γ => (R.ofo (Tg.bind tg d Γ) Γ).toS fun Γ _ => evSs φ body Γ) (numD ds) Γ
  | .dputp x path k e, Γ => (evE φ e Γ).toS fun d Γ => (evEs φ path Γ).toS fun ps Γ => (evE φ k Γ).toS fun q Γ => (R.ofo ((keyOf q).bind fun key => (intsOf ps).bind fun is => (get Γ x).bind fun t => (pathD t is).bind fun z => (putD key d z).bind fun z' => repAt t is z') Γ).toS fun t Γ => .nx (put Γ x t)
  | .form1 y x body, Γ => match get Γ x with
      | some (.lst ds) => formL (fun Γ => evSs φ body Γ) y x ds [] ((Γ.set y none).set x none)
      | _ => .bad
  | .forz tg a b body, Γ => (evE φ a Γ).toS fun x Γ => (evE φ b Γ).toS fun y Γ => (R.ofo (zipK x y) Γ).toS fun ds Γ => forL (fun d Γ => (R.ofo (Tg.bind tg d Γ) Γ).toS fun Γ _ => evSs φ body Γ) ds Γ
  | .borS ys s, Γ => (evS φ s Γ).wiped ys
  | .reK y s, Γ => (evS φ s (Γ.set y none)).wiped [y]
  | .tryK x e cs body, Γ => (evSs φ body Γ).caught x e cs
def evSs (φ : FEnv) : List S → Env → SR
  | [], Γ => .nx Γ
  | s :: ss, Γ => (evS φ s Γ).seq fun Γ => evSs φ ss Γ
end
/-- how a def's parameters stand at its end -/
def outsOf : List Kd → Nat → Env → List D → Option (List D)
  | [], _, _, _ => some []
  | k :: ks, i, Γ, args => match (if k = .ow then get Γ i else args[i]?) with
      | some d => (outsOf ks (i + 1) Γ args).map (d :: ·)
      | none => none
/-- a def: its parameters' kinds, how many names, the body -/
def den (φ : FEnv) (pk : List Kd) (n : Nat) (body : List S) (args : List D) : RF :=
  match evSs φ body (args.map some ++ List.replicate (n - args.length) none) with
  | .rt d Γ => match outsOf pk 0 Γ args with | some outs => .ok d outs | none => .bad
  | .nx Γ => match outsOf pk 0 Γ args with | some outs => .ok .non outs | none => .bad
  | .exc c Γ => match outsOf pk 0 Γ args with | some outs => .exc c outs | none => .bad
  | _ => .bad
end
end CW
/-! What a piece of syntax does, told by the terms: the judgements and the rules for expressions. -/
namespace CW
open PySem L2

def Md.tmp : Md → Bool
  | .ow => true
  | .os => true
  | _ => false
/-- where a value's own cells come from -/
def Org (m : Md) (eff : List Nat) (H : Hp) (Φ : Nat → List Addr) (F : List Addr) : Prop := m.tmp = true → ∀ p ∈ F, H p = none ∨ ∃ i ∈ eff, p ∈ Φ i

section
variable (X : Cx) (φ : FEnv) (ks : List Kd) (cl : Nat → Addr) (E : L2.St → XK)

def DenR {α β : Type} (eff : List Nat) (rel : (Addr → Prop) → Hp → (Nat → List Addr) → α → β → Prop) (r : R α) (G : Addr → Prop) (H : Hp) (σ : L2.St) (Γ : Env) (Φ : Nat → List Addr) (Q : β → Hp → Prop) : Prop := match r with
  | .ok d Γ' => ∀ G' H' Φ' v, SI X.K ks G' H' σ Γ' Φ' → Step eff G H Φ Γ G' H' Φ' Γ' → rel G' H' Φ' d v → Q v H'
  | .exc c Γ' => ∀ G' H' Φ', SI X.K ks G' H' σ Γ' Φ' → Step eff G H Φ Γ G' H' Φ' Γ' → E σ (.ref (cl c)) none H'
  | .bad => False
/-- a value's relation -/
def RelE (m : Md) (eff : List Nat) (H0 : Hp) (Φ0 : Nat → List Addr) (G : Addr → Prop) (H : Hp) (Φ : Nat → List Addr) (d : D) (v : V) : Prop := ∃ F, Res X.K m G H Φ F v d ∧ Org m eff H0 Φ0 F
def SndE (e : Expr) (ir : CW.E) (m : Md) (eff : List Nat) : Prop :=
  ∃ t, PE X e t ∧ ∀ G H σ Γ Φ (Q : VK), SI X.K ks G H σ Γ Φ → DenR X ks cl E eff (RelE X m eff H Φ) (evE φ ir Γ) G H σ Γ Φ Q → t σ H Q
/-- a test -/
def SndT (e : Expr) (ir : CW.E) (eff : List Nat) : Prop :=
  ∃ t, PT X e t ∧ ∀ G H σ Γ Φ (Q : Bool → Hp → Prop), SI X.K ks G H σ Γ Φ → DenR X ks cl E eff (fun _ _ _ d v => v = d) (evC φ (some ir) Γ) G H σ Γ Φ Q → t σ H Q
inductive ResA (K : PySem.W.Frag) (G : Addr → Prop) (H : Hp) (Φ : Nat → List Addr) : List Md → List D → List V → Prop
  | nil : ResA K G H Φ [] [] []
  | cons {m ms F d ds v vs} : Res K m G H Φ F v d → ResA K G H Φ ms ds vs → ResA K G H Φ (m :: ms) (d :: ds) (v :: vs)
/-- operands -/
def SndA (es : List Expr) (irs : List CW.E) (ms : List Md) (eff : List Nat) : Prop :=
  ∃ t, PA X es t ∧ ∀ G H σ Γ Φ (Q : List V → Hp → Prop), SI X.K ks G H σ Γ Φ → DenR X ks cl E eff (fun G H Φ ds vs => ResA X.K G H Φ ms ds vs) (evEs φ irs Γ) G H σ Γ Φ Q → t σ H Q
/-- what a display takes -/
def ResD (K : PySem.W.Frag) (m : Md) (G : Addr → Prop) (H : Hp) (Φ : Nat → List Addr) (F : List Addr) (vs : List V) (ds : List D) : Prop := match m with
  | .im => F = [] ∧ OwnL K NoG H [] vs ds
  | .sh => F = [] ∧ OwnL K G H [] vs ds
  | .ow => OwnL K NoG H F vs ds ∧ Tmp G H Φ F
  | .os => OwnL K G H F vs ds ∧ Tmp G H Φ F
  | .rd _ => False
def SndD (es : List Expr) (irs : List CW.E) (m : Md) (eff : List Nat) : Prop :=
  ∃ t, PA X es t ∧ ∀ G H σ Γ Φ (Q : List V → Hp → Prop), SI X.K ks G H σ Γ Φ → DenR X ks cl E eff (fun G' H' Φ' ds vs => ∃ F, ResD X.K m G' H' Φ' F vs ds ∧ Org m eff H Φ F) (evEs φ irs Γ) G H σ Γ Φ Q → t σ H Q
end

section
variable {X : Cx} {φ : FEnv} {ks : List Kd} {cl : Nat → Addr} {E : L2.St → XK} {G G1 G2 : Addr → Prop} {H H1 H2 : Hp} {σ : L2.St} {Γ Γ1 Γ2 : Env} {Φ Φ1 Φ2 : Nat → List Addr}

/-- one after another: what is wanted of the rest stands behind the first -/
theorem DenR.seq {α β γ δ : Type} {e1 e : List Nat} {rel1 : (Addr → Prop) → Hp → (Nat → List Addr) → α → β → Prop} {r : R α} {k : α → Env → R γ} {rel : (Addr → Prop) → Hp → (Nat → List Addr) → γ → δ → Prop} {Q1 : β → Hp → Prop} {Q : δ → Hp → Prop}
    (h : DenR X ks cl E e rel (r.bind k) G H σ Γ Φ Q) (sub : ∀ i ∈ e1, i ∈ e)
    (hk : ∀ a Γ1 G1 H1 Φ1 b, SI X.K ks G1 H1 σ Γ1 Φ1 → Step e1 G H Φ Γ G1 H1 Φ1 Γ1 → rel1 G1 H1 Φ1 a b → DenR X ks cl E e rel (k a Γ1) G1 H1 σ Γ1 Φ1 Q → Q1 b H1) :
    DenR X ks cl E e1 rel1 r G H σ Γ Φ Q1 := by
  cases r with
  | ok a Γ1 =>
    intro G1 H1 Φ1 b I1 s1 r1
    refine hk a Γ1 G1 H1 Φ1 b I1 s1 r1 ?_
    have h' : DenR X ks cl E e rel (k a Γ1) G H σ Γ Φ Q := h
    have tr : ∀ {G' H' Φ' Γ'}, Step e G1 H1 Φ1 Γ1 G' H' Φ' Γ' → Step e G H Φ Γ G' H' Φ' Γ' := fun s2 => (s1.trans s2).wider fun i hi => by
      rcases List.mem_append.mp hi with hi | hi
      · exact sub i hi
      · exact hi
    revert h'
    cases k a Γ1 with
    | ok d Γ2 => exact fun h' G' H' Φ' v I' s' r' => h' G' H' Φ' v I' (tr s') r'
    | exc c Γ2 => exact fun h' G' H' Φ' I' s' => h' G' H' Φ' I' (tr s')
    | bad => exact fun h' => h'
  | exc c Γ1 => exact fun G1 H1 Φ1 I1 s1 => h G1 H1 Φ1 I1 (s1.wider sub)
  | bad => exact h.elim
/-- the end of a pure step: what is told, where only new cells have come -/
theorem DenR.fin {α γ δ : Type} {e : List Nat} {rel : (Addr → Prop) → Hp → (Nat → List Addr) → γ → δ → Prop} {o : Option γ} {Q : δ → Hp → Prop}
    (h : DenR X ks cl E e rel (R.ofo o Γ) G H σ Γ Φ Q) (I : SI X.K ks G H σ Γ Φ) : ∃ d, o = some d ∧ ∀ H' v, (∀ p u, H p = some u → H' p = some u) → rel G H' Φ d v → Q v H' := by
  cases o with
  | none => exact h.elim
  | some d => exact ⟨d, rfl, fun H' v ex r => h G H' Φ v (I.grow ex) ((Step.grow ex).wider fun _ h => nomatch h) r⟩
theorem DenR.here {γ δ : Type} {e : List Nat} {rel : (Addr → Prop) → Hp → (Nat → List Addr) → γ → δ → Prop} {d : γ} {Q : δ → Hp → Prop} {v : δ}
    (h : DenR X ks cl E e rel (.ok d Γ) G H σ Γ Φ Q) (I : SI X.K ks G H σ Γ Φ) (r : rel G H Φ d v) : Q v H := h G H Φ v I Step.refl r
theorem rel_im {d : D} {v : V} {eff : List Nat} (o : Own X.K NoG H [] v d) : RelE X .im eff H1 Φ1 G H Φ d v := ⟨[], ⟨rfl, o⟩, fun h => nomatch h⟩

variable {a b c e : Expr} {a' b' c' : CW.E} {ma mb mc : Md} {ea eb ec : List Nat} {pos : Pos}

theorem gets {Γ : Env} {i : Nat} {d : D} (h : get Γ i = some d) : Γ[i]? = some (some d) := by
  unfold get at h
  cases e : Γ[i]? with
  | none =>
    rw [e] at h
    cases h
  | some o =>
    rw [e] at h
    cases o with
    | none => cases h
    | some d' =>
      cases h
      rfl
def mdOf (ks : List Kd) (i : Nat) : Md := match kd ks i with
  | .im => .im
  | .sh => .sh
  | _ => .rd i
/-- a name -/
theorem snd_var {x : Str} {i : Nat} (hN : X.N[i]? = some x) (hv : Vis X.env.scope x) (h1 : (x == ("__debug__" : Str)) = false) (h2 : (x == ("__classdict__" : Str)) = false) : SndE X φ ks cl E (.Name x pos) (.var i) (mdOf ks i) [] := by
  refine ⟨_, pe_var hN hv h1 h2, fun G H σ Γ Φ Q I h => ?_⟩
  simp only [evE] at h
  obtain ⟨d, e, k⟩ := h.fin (α := Unit) I
  obtain ⟨v, e1, o⟩ := I.slot i d (gets e)
  refine ⟨v, e1, k H v (fun _ _ h => h) ?_⟩
  have hsh := I.sh i
  unfold mdOf
  cases hk : kd ks i with
  | im =>
    rw [hk] at o hsh
    rw [hsh rfl] at o
    exact ⟨[], ⟨rfl, o⟩, fun h => nomatch h⟩
  | sh =>
    rw [hk] at o hsh
    rw [hsh rfl] at o
    exact ⟨[], ⟨rfl, o⟩, fun h => nomatch h⟩
  | ow =>
    rw [hk] at o
    exact ⟨Φ i, ⟨o.mono NoG.le, fun p hp => hp⟩, fun h => nomatch h⟩
  | os =>
    rw [hk] at o
    exact ⟨Φ i, ⟨o, fun p hp => hp⟩, fun h => nomatch h⟩
/-- a name given up -/
theorem snd_mv {x : Str} {i : Nat} {m : Md} (hm : (kd ks i = .ow ∧ m = .ow) ∨ (kd ks i = .os ∧ m = .os)) (hN : X.N[i]? = some x) (hv : Vis X.env.scope x) (h1 : (x == ("__debug__" : Str)) = false) (h2 : (x == ("__classdict__" : Str)) = false) : SndE X φ ks cl E (.Name x pos) (.mv i) m [i] := by
  refine ⟨_, pe_var hN hv h1 h2, fun G H σ Γ Φ Q I h => ?_⟩
  simp only [evE] at h
  cases e : get Γ i with
  | none =>
    rw [e] at h
    exact h.elim
  | some d =>
    rw [e] at h
    have e0 := gets e
    obtain ⟨v, e1, o⟩ := I.slot i d e0
    refine ⟨v, e1, h G H (pu Φ i []) v (I.drop i) (Step.drop i) ⟨Φ i, ?_, fun _ p hp => .inr ⟨i, List.mem_singleton.mpr rfl, hp⟩⟩⟩
    rcases hm with ⟨hk, rfl⟩ | ⟨hk, rfl⟩
    · rw [hk] at o
      exact ⟨o, I.dropTmp i⟩
    · rw [hk] at o
      exact ⟨o, I.dropTmp i, I.os i d e0 hk⟩
theorem snd_int {i j} : SndE X φ ks cl E (.Constant (.int i) j pos) (.cn (.int i)) .im [] := ⟨_, pe_int, fun G H σ Γ Φ Q I h => by
  simp only [evE] at h
  exact h.here I (rel_im .int)⟩
theorem snd_bl {i j} : SndE X φ ks cl E (.Constant (.bool i) j pos) (.cn (.bl i)) .im [] := ⟨_, pe_bl, fun G H σ Γ Φ Q I h => by
  simp only [evE] at h
  exact h.here I (rel_im .bl)⟩
theorem snd_non {j} : SndE X φ ks cl E (.Constant .none j pos) (.cn .non) .im [] := ⟨_, pe_non, fun G H σ Γ Φ Q I h => by
  simp only [evE] at h
  exact h.here I (rel_im .non)⟩
theorem snd_str {i j} : SndE X φ ks cl E (.Constant (.str i) j pos) (.cn (.str i)) .im [] := ⟨_, pe_str, fun G H σ Γ Φ Q I h => by
  simp only [evE] at h
  exact h.here I (rel_im .str)⟩
theorem snd_glob {x : Str} {i : Int} {u : Value} (hg : Gl X x) (hm : X.mg x = some u) (r : RelV (.int i) u) (hd : (x == ("__debug__" : Str)) = false) : SndE X φ ks cl E (.Name x pos) (.cn (.int i)) .im [] := ⟨_, pe_glob hg hm r hd, fun G H σ Γ Φ Q I h => by
  simp only [evE] at h
  exact h.here I (rel_im .int)⟩
theorem snd_chk (ha : SndE X φ ks cl E a a' ma ea) : SndE X φ ks cl E a (.chk a') .im ea := by
  obtain ⟨ta, pa, qa⟩ := ha
  refine ⟨ta, pa, fun G H σ Γ Φ Q I h => ?_⟩
  simp only [evE] at h
  refine qa G H σ Γ Φ _ I (h.seq (fun _ h => h) fun d Γ1 G1 H1 Φ1 v I1 s1 r1 h1 => ?_)
  obtain ⟨F, r1, _⟩ := r1
  by_cases hd : d.imm = true
  · rw [if_pos hd] at h1
    exact h1.here I1 (rel_im (r1.own.immut hd).2)
  · rw [if_neg hd] at h1
    exact h1.elim

/-! ### operators -/
theorem snd_bin {op : Operator} {o : Bop} {r : R2} (ho : OpR X (binaryOp op) r) (hr : ∀ x y z, o.sem x y = some z → ∀ (G1 G2 : Addr → Prop) (H : Hp) F1 F2 v w (Q : VK), Own X.K G1 H F1 v x → Own X.K G2 H F2 w y → (∀ u, Own X.K NoG H [] u z → Q u H) → r v w H Q)
    (ha : SndE X φ ks cl E a a' ma ea) (hb : SndE X φ ks cl E b b' mb eb) (off : ma.off eb = true) : SndE X φ ks cl E (.BinOp a op b pos) (.bin o a' b') .im (ea ++ eb) := by
  obtain ⟨ta, pa, qa⟩ := ha
  obtain ⟨tb, pb, qb⟩ := hb
  refine ⟨_, pe_op ho pa pb, fun G H σ Γ Φ Q I h => ?_⟩
  simp only [evE] at h
  refine qa G H σ Γ Φ _ I (h.seq (fun i hi => List.mem_append_left _ hi) fun x Γ1 G1 H1 Φ1 v I1 s1 r1 h1 => ?_)
  refine qb G1 H1 σ Γ1 Φ1 _ I1 (h1.seq (fun i hi => List.mem_append_right _ hi) fun y Γ2 G2 H2 Φ2 w I2 s2 r2 h2 => ?_)
  obtain ⟨F1, r1, _⟩ := r1
  obtain ⟨F2, r2, _⟩ := r2
  obtain ⟨z, ez, k⟩ := h2.fin (α := Unit) I2
  exact hr x y z ez G2 G2 H2 F1 F2 v w Q (r1.step I1 s2 off).own r2.own fun u ou => k H2 u (fun _ _ h => h) (rel_im ou)
theorem sem_add_int {x y z : D} {K : PySem.W.Frag} (hz : Bop.add.sem x y = some z) {G1 G2 : Addr → Prop} {H : Hp} {F1 F2 v w} (h1 : Own K G1 H F1 v x) (h2 : Own K G2 H F2 w y) :
    (∃ i j, v = .int i ∧ w = .int j ∧ z = .int (i + j)) ∨ (∃ i j, v = .str i ∧ w = .str j ∧ i.length + j.length ≤ sizeLine ∧ z = .str (i ++ j)) := by
  cases h1 <;> cases h2 <;> simp only [Bop.sem] at hz <;> first
    | (cases hz; done)
    | exact .inl ⟨_, _, rfl, rfl, (Option.some.inj hz).symm⟩
    | (split at hz
       · exact .inr ⟨_, _, rfl, rfl, by assumption, (Option.some.inj hz).symm⟩
       · cases hz)
end
end CW
/-! == and != where one side is [] or a tuple of ints, whatever stands on the other. -/
namespace CW
open PySem L2 PySem.SeqAt PySem.MeetsSeq PySem.AutoSeq1
theorem dict_eq_no (l : Addr) (es : Array DictEntry) (n : Nat) (dd : Option Addr) (sl : Array (Option Value)) (b : Int) (u : Tok) :
    Meets (Builtin.«dict.__eq__» ⟨[.ref l, .int b u], []⟩) (fun _ R s => s.heap.get? l = some { cls := .type "dict", dict := dd, data := .dict es n, slots := sl } ∧ R (.ok (.ret .notImplemented)) s) :=
  .of_wp fun prog w A R s h => by obtain ⟨hp, g, d, tk, os⟩ := s; obtain ⟨hl, h⟩ := h; have f1 := F.sub_int_dict; wp_walk using wpAny_loadPart' hl; exact ⟨_, rfl, h⟩
theorem int_eq_no (b : Int) (u : Tok) (l : Addr) (c : Value) (es : Array DictEntry) (n : Nat) (dd : Option Addr) (sl : Array (Option Value)) :
    Meets (Builtin.«int.__eq__» ⟨[.int b u, .ref l], []⟩) (fun _ R s => s.heap.get? l = some { cls := c, dict := dd, data := .dict es n, slots := sl } ∧ R (.ok (.ret .notImplemented)) s) :=
  .of_wp fun prog w A R s h => by obtain ⟨hp, g, d, tk, os⟩ := s; obtain ⟨hl, h⟩ := h; wp_walk using wpAny_loadPart' hl, wpAny_load hl; exact ⟨_, rfl, h⟩
section
variable {A : Around} {s : Shared}
theorem dict_int_at {l : Addr} {o : Obj} {es : Array DictEntry} {n : Nat} (b : Int) (u : Tok) (ho : s.heap.get? l = some o) (hc : o.cls = .type "dict") (hd : o.data = .dict es n) (hu : A.units < cLine) : EqAt A s (.ref l) (.int b u) false := fun prog w E Q h => by
  obtain ⟨cls, dd, data, sl⟩ := o
  simp only at hc hd
  subst hc hd
  have rc : ∀ (Q' : Value → Shared → Prop), Q' (.bool false) s → wpAny (model prog w) A (richCompare .Eq (.ref l) (.int b u)) Q' E s := fun Q' h' =>
    rc_eq_decline_or (k := false) ⟨_, ho, rfl⟩ (typeIs_int s b u) (by decide) F.sub_int_dict F.slot_dict_eq F.slot_int_eq_refl
      (fun _ hq => call_meets F.slot_dict_eq ⟨_, ho, rfl⟩ F.entry_dict_eq (F.args_dict_eq_2 _ _) (dict_eq_no l es n dd sl b u) ⟨ho, hq⟩)
      (fun _ hq => call_meets F.slot_int_eq_refl (typeIs_int s b u) F.entry_int_eq (F.args_int_eq_2 _ _) (int_eq_no b u l (.type "dict") es n dd sl) ⟨ho, hq⟩)
      (fun _ hq => wpAny_of_eq (rfl : isSame (.ref l) (.int b u) = pure false) hq) (.inr hu) h'
  unfold eqBool
  exact wpAny_holding (wpAny_ite_split (fun same => absurd (eq_of_beq same) nofun) fun _ => wpAny_bind (rc _ (wpAny_truthy_bool h)))
end
/-- a value beside an int -/
inductive EqI (H : Hp) : V → Int → Bool → Prop
  | non {i} : EqI H .non i false
  | bl {b i} : EqI H (.bl b) i ((if b then 1 else 0) == i)
  | int {j i} : EqI H (.int j) i (j == i)
  | str {x i} : EqI H (.str x) i false
  | lst {p xs i} : H p = some (.lst xs) → EqI H (.ref p) i false
  | tup {p xs i} : H p = some (.tup xs) → EqI H (.ref p) i false
  | dct {p xs i} : H p = some (.dT xs) → EqI H (.ref p) i false
section
variable {X : Cx} {pins : List (Addr × Obj)} {σ : L2.St} {H : Hp} {s : Shared}
theorem EqI.at {v : V} {i : Int} {b : Bool} {u : Value} {A : Around} (h : EqI H v i b) (I : Inv X pins σ H s) (r : RelV v u) (hu : A.units < cLine) (t : Tok) : EqAt A s u (.int i t) b := by
  cases h with
  | non => cases (show u = Value.none from r); exact EqAt.none_int _ _
  | bl => cases (show u = Value.bool _ from r); exact EqAt.bool_int _ _ _
  | int => obtain ⟨t', e⟩ := (show ∃ t, u = Value.int _ t from r); cases e; exact EqAt.int_int _ _ _ _
  | str => obtain ⟨t', e⟩ := (show ∃ t, u = Value.str _ t from r); cases e; exact EqAt.str_int _ _ _ _
  | lst h =>
    cases (show u = Value.ref _ from r)
    obtain ⟨its, _, p1, _⟩ := I.list (SqL.of h)
    exact EqAt.list_int _ _ p1.isList hu
  | tup h =>
    cases (show u = Value.ref _ from r)
    obtain ⟨its, _, p1, _⟩ := I.tuple (SqT.of h)
    exact EqAt.tuple_int _ _ p1 hu
  | dct h =>
    cases (show u = Value.ref _ from r)
    obtain ⟨_, _, xs, _, o, es, ep, e1, e2, e3, _⟩ := I.hok _ _ h
    exact dict_int_at _ _ e1 e2.1 e3 hu
def eqAll (e : Nat → Bool) (m n : Nat) : Bool := (List.range (min m n)).all e && m == n
/-- what such a comparison tells; ng: that it is != -/
def rEqX (ng : Bool) : R2 := fun x y H Q => (∃ a b : Str, x = .str a ∧ y = .str b ∧ Q (.bl (ng != (a == b))) H) ∨ ∃ p q, x = .ref p ∧ y = .ref q ∧
  ((∃ us, H p = some (.lst us) ∧ H q = some (.lst []) ∧ Q (.bl (ng != us.isEmpty)) H) ∨
   ∃ (us : List V) (is : List Int) (e : Nat → Bool), H p = some (.tup us) ∧ H q = some (.tup (is.map V.int)) ∧ (∀ (j : Nat) v i, us[j]? = some v → is[j]? = some i → EqI H v i (e j)) ∧ Q (.bl (ng != eqAll e us.length is.length)) H)
theorem each_at {us : List V} {is : List Int} {its its2 : List Value} {e : Nat → Bool} {A : Around} (I : Inv X pins σ H s) (hu : A.units < cLine) (r : Vals us its) (r2 : Vals (is.map V.int) its2) (h : ∀ (j : Nat) v i, us[j]? = some v → is[j]? = some i → EqI H v i (e j)) (j : Nat) (h1 : j < its.toArray.size) (h2 : j < its2.toArray.size) : EqAt A s its.toArray[j] its2.toArray[j] (e j) := by
  have l1 := r.length
  have l2 := r2.length
  rw [List.length_map] at l2
  simp only [List.size_toArray] at h1 h2
  have g1 := r.get (i := j) (x := us[j]) (List.getElem?_eq_getElem (by omega))
  have g2 := r2.get (i := j) (x := .int is[j]) (by rw [List.getElem?_map, List.getElem?_eq_getElem (by omega)]; rfl)
  obtain ⟨u, q1, q2⟩ := g1
  obtain ⟨w, q3, t, q4⟩ := g2
  subst q4
  rw [List.getElem?_eq_getElem h1] at q1
  rw [List.getElem?_eq_getElem h2] at q3
  simp only [List.getElem_toArray]
  rw [Option.some.inj q1, Option.some.inj q3]
  exact (h j us[j] is[j] (List.getElem?_eq_getElem (by omega)) (List.getElem?_eq_getElem (by omega))).at I q2 hu t
theorem op_eqX (hu : X.A.units + 1 < cLine) : OpR X (compareOp .Eq) (rEqX false) := by
  intro pins s σ H x y v u Q I rx ry h
  rcases h with ⟨a, b, rfl, rfl, hq⟩ | ⟨p, q, rfl, rfl, h⟩
  · obtain ⟨t1, e1⟩ := (show ∃ t, v = Value.str a t from rx)
    obtain ⟨t2, e2⟩ := (show ∃ t, u = Value.str b t from ry)
    subst e1 e2
    exact RcAt.str_str a t1 b t2 X.prog X.w X.xe (EP X pins σ Q) ⟨.bl _, H, I, by simp [RelV], hq⟩
  cases (show v = Value.ref p from rx)
  cases (show u = Value.ref q from ry)
  rcases h with ⟨us, h1, h2, hq⟩ | ⟨us, is, e, h1, h2, h3, hq⟩
  · obtain ⟨its, r1, p1, _⟩ := I.list (SqL.of h1)
    obtain ⟨its2, r2, p2, _⟩ := I.list (SqL.of h2)
    cases r2
    cases r1 with
    | nil => exact RcAt.lists (e := fun _ => true) p1.isList p2.isList rfl (by omega) (fun j h1 _ => absurd h1 (by simp)) X.prog X.w X.xe (EP X pins σ Q) ⟨.bl _, H, I, rfl, hq⟩
    | cons a b => exact RcAt.lists_lengths p1.isList p2.isList (by simp) (by omega) X.prog X.w X.xe (EP X pins σ Q) ⟨.bl _, H, I, rfl, hq⟩
  · obtain ⟨its, r1, p1, _⟩ := I.tuple (SqT.of h1)
    obtain ⟨its2, r2, p2, _⟩ := I.tuple (SqT.of h2)
    have l1 := r1.length
    have l2 := r2.length
    rw [List.length_map] at l2
    refine RcAt.tuples (e := e) p1 p2 (by omega) (fun j a b => each_at I (by show X.A.units + 1 < cLine; exact hu) r1 r2 h3 j a b) X.prog X.w X.xe (EP X pins σ Q) ⟨.bl _, H, I, ?_, hq⟩
    show Value.bool _ = Value.bool _
    simp [eqAll, l1, l2]
theorem op_neX (hu : X.A.units + 1 < cLine) : OpR X (compareOp .NotEq) (rEqX true) := by
  intro pins s σ H x y v u Q I rx ry h
  rcases h with ⟨a, b, rfl, rfl, hq⟩ | ⟨p, q, rfl, rfl, h⟩
  · obtain ⟨t1, e1⟩ := (show ∃ t, v = Value.str a t from rx)
    obtain ⟨t2, e2⟩ := (show ∃ t, u = Value.str b t from ry)
    subst e1 e2
    exact RcNeAt.str_str a t1 b t2 X.prog X.w X.xe (EP X pins σ Q) ⟨.bl _, H, I, by simp [RelV], hq⟩
  cases (show v = Value.ref p from rx)
  cases (show u = Value.ref q from ry)
  rcases h with ⟨us, h1, h2, hq⟩ | ⟨us, is, e, h1, h2, h3, hq⟩
  · obtain ⟨its, r1, p1, _⟩ := I.list (SqL.of h1)
    obtain ⟨its2, r2, p2, _⟩ := I.list (SqL.of h2)
    cases r2
    cases r1 with
    | nil => exact RcNeAt.lists (e := fun _ => true) p1.isList p2.isList rfl (by omega) (fun j h1 _ => absurd h1 (by simp)) X.prog X.w X.xe (EP X pins σ Q) ⟨.bl _, H, I, rfl, hq⟩
    | cons a b => exact RcNeAt.lists_lengths p1.isList p2.isList (by simp) (by omega) X.prog X.w X.xe (EP X pins σ Q) ⟨.bl _, H, I, rfl, hq⟩
  · obtain ⟨its, r1, p1, _⟩ := I.tuple (SqT.of h1)
    obtain ⟨its2, r2, p2, _⟩ := I.tuple (SqT.of h2)
    have l1 := r1.length
    have l2 := r2.length
    rw [List.length_map] at l2
    refine RcNeAt.tuples (e := e) p1 p2 (by omega) (fun j a b => each_at I (by show X.A.units + 1 < cLine; exact hu) r1 r2 h3 j a b) X.prog X.w X.xe (EP X pins σ Q) ⟨.bl _, H, I, ?_, hq⟩
    show Value.bool _ = Value.bool _
    simp [eqAll, l1, l2]
end
end CW
/-! Operators on values: what HandS's rules ask, answered for data trees. -/
namespace CW
open PySem L2

mutual
def D.toP : D → PyData
  | .non => .none
  | .bl b => .bool b
  | .int i => .int i
  | .str s => .str s
  | .tup ds => .tuple (D.toPs ds)
  | .lst ds => .list (D.toPs ds)
  | .scr _ => .dict []
  | .dct _ _ => .dict []
  | .exn _ => .dict []
def D.toPs : List D → List PyData
  | [] => []
  | d :: ds => d.toP :: D.toPs ds
end
theorem toPs_eq : ∀ ds : List D, D.toPs ds = ds.map D.toP
  | [] => by simp [D.toPs]
  | d :: ds => by simp [D.toPs, toPs_eq ds]
mutual
theorem eqv_toP : ∀ a b : D, PyData.eqv a.toP b.toP = eqD a b
  | .scr ns, b => by cases b <;> simp [D.toP, PyData.eqv, eqD]
  | .dct _ _, b => by cases b <;> simp [D.toP, PyData.eqv, eqD]
  | .exn _, b => by cases b <;> simp [D.toP, PyData.eqv, eqD]
  | .non, b => by cases b <;> simp [D.toP, PyData.eqv, eqD]
  | .bl x, b => by cases b <;> simp [D.toP, PyData.eqv, eqD]
  | .int i, b => by cases b <;> simp [D.toP, PyData.eqv, eqD]
  | .str s, b => by cases b <;> simp [D.toP, PyData.eqv, eqD]
  | .tup xs, b => by
    cases b with
    | tup ys => simp only [D.toP, PyData.eqv, eqD]; exact eqvs_toP xs ys
    | _ => simp [D.toP, PyData.eqv, eqD]
  | .lst xs, b => by
    cases b with
    | lst ys => simp only [D.toP, PyData.eqv, eqD]; exact eqvs_toP xs ys
    | _ => simp [D.toP, PyData.eqv, eqD]
theorem eqvs_toP : ∀ xs ys : List D, PyData.eqvAll (D.toPs xs) (D.toPs ys) = eqDs xs ys
  | [], [] => by simp [D.toPs, PyData.eqvAll, eqDs]
  | [], _ :: _ => by simp [D.toPs, PyData.eqvAll, eqDs]
  | _ :: _, [] => by simp [D.toPs, PyData.eqvAll, eqDs]
  | x :: xs, y :: ys => by
    simp only [D.toPs, PyData.eqvAll, eqDs]
    rw [eqv_toP x y, eqvs_toP xs ys]
end
mutual
theorem shp_can : ∀ (d : D) (n : Nat), d.shp n = true → d.toP.canLay0 = true ∧ d.toP.depth ≤ n
  | .non, n, _ => by simp [D.toP, PyData.canLay0, PyData.depth]
  | .bl _, n, _ => by simp [D.toP, PyData.canLay0, PyData.depth]
  | .int _, n, _ => by simp [D.toP, PyData.canLay0, PyData.depth]
  | .str s, n, h => by
    have h : PyData.strOk s = true := by cases n <;> simpa [D.shp] using h
    simp [D.toP, PyData.canLay0, PyData.depth, h]
  | .scr ds, n, h => by cases n <;> simp [D.shp] at h
  | .dct _ _, n, h => by cases n <;> simp [D.shp] at h
  | .exn _, n, h => by cases n <;> simp [D.shp] at h
  | .tup ds, 0, h => by simp [D.shp] at h
  | .lst ds, 0, h => by simp [D.shp] at h
  | .tup ds, n + 1, h => by
    obtain ⟨a, b⟩ := shps_can ds n (by simpa [D.shp] using h)
    simp only [D.toP, PyData.canLay0, PyData.depth]
    exact ⟨a, Nat.succ_le_succ b⟩
  | .lst ds, n + 1, h => by
    obtain ⟨a, b⟩ := shps_can ds n (by simpa [D.shp] using h)
    simp only [D.toP, PyData.canLay0, PyData.depth]
    exact ⟨a, Nat.succ_le_succ b⟩
theorem shps_can : ∀ (ds : List D) (n : Nat), (∀ d ∈ ds, d.shp n = true) → PyData.canLayAll0 (D.toPs ds) = true ∧ PyData.depthAll (D.toPs ds) ≤ n
  | [], n, _ => by simp [D.toPs, PyData.canLayAll0, PyData.depthAll]
  | d :: ds, n, h => by
    obtain ⟨a, b⟩ := shp_can d n (h d List.mem_cons_self)
    obtain ⟨a', b'⟩ := shps_can ds n fun x hx => h x (List.mem_cons_of_mem _ hx)
    simp only [D.toPs, PyData.canLayAll0, PyData.depthAll, Bool.and_eq_true]
    exact ⟨⟨a, a'⟩, by omega⟩
end
theorem shp_shaped {d : D} (h : d.shp 64 = true) : SeqAt.shaped d.toP = true := by
  obtain ⟨a, b⟩ := shp_can d 64 h
  unfold SeqAt.shaped
  rw [a, decide_eq_true b]
  rfl
section
variable {K : PySem.W.Frag} {G : Addr → Prop} {H : Hp}
mutual
theorem Own.dp : ∀ {F : List Addr} {v : V} {d : D} {n : Nat}, Own K G H F v d → d.shp n = true → Dp K H v d.toP
  | _, _, _, _, .non, _ => by rw [D.toP]; exact .non
  | _, _, _, _, .bl, _ => by rw [D.toP]; exact .bl _
  | _, _, _, _, .int, _ => by rw [D.toP]; exact .int _
  | _, _, _, _, .str, _ => by rw [D.toP]; exact .str _
  | _, _, _, n + 1, .tup h t _, s => by rw [D.toP]; exact .tup (SqT.of h) (OwnL.dp (n := n) t (by simpa [D.shp] using s))
  | _, _, _, n + 1, .frz _ h t _, s => by rw [D.toP]; exact .lst (SqL.of h) (OwnL.dp (n := n) t (by simpa [D.shp] using s))
  | _, _, _, n + 1, .lst h t _ _, s => by rw [D.toP]; exact .lst (SqL.of h) (OwnL.dp (n := n) t (by simpa [D.shp] using s))
  | _, _, _, 0, .tup h t _, s => by simp [D.shp] at s
  | _, _, _, 0, .frz _ h t _, s => by simp [D.shp] at s
  | _, _, _, 0, .lst h t _ _, s => by simp [D.shp] at s
  | _, _, _, n, .scrR _ _ _, s => by cases n <;> simp [D.shp] at s
  | _, _, _, n, .scrK _ _, s => by cases n <;> simp [D.shp] at s
  | _, _, _, n, .dfz _ _ _ _ _, s => by cases n <;> simp [D.shp] at s
  | _, _, _, n, .dct _ _ _ _ _, s => by cases n <;> simp [D.shp] at s
  | _, _, _, n, .exn _ _, s => by cases n <;> simp [D.shp] at s
theorem OwnL.dp : ∀ {F : List Addr} {vs : List V} {ds : List D} {n : Nat}, OwnL K G H F vs ds → (∀ d ∈ ds, d.shp n = true) → DpAll K H vs (D.toPs ds)
  | _, _, _, _, .nil, _ => by rw [D.toPs]; exact .nil
  | _, _, _, n, .cons h t _, s => by rw [D.toPs]; exact .cons (Own.dp h (s _ List.mem_cons_self)) (OwnL.dp (n := n) t fun d hd => s d (List.mem_cons_of_mem _ hd))
end
/-- the script -/
theorem Own.script {F : List Addr} {v : V} {ns : List Int} (h : Own K G H F v (.scr ns)) : ∃ p, v = .ref p ∧ SqL K H p (ns.map V.int) ∧ ns.length ≤ sizeLine := by
  cases h with
  | scrR h g z => exact ⟨_, rfl, .inl h, z⟩
  | scrK h z => exact ⟨_, rfl, h H, z⟩
/-- what a list reads as -/
theorem Own.seq {F : List Addr} {v : V} {ds : List D} (h : Own K G H F v (.lst ds)) : ∃ p vs F', v = .ref p ∧ H p = some (.lst vs) ∧ OwnL K G H F' vs ds ∧ (∀ q ∈ F', q ∈ F) ∧ ds.length ≤ sizeLine := by
  cases h with
  | frz g h t z => exact ⟨_, _, _, rfl, h, t, (fun _ h => nomatch h), z⟩
  | lst h t n z => exact ⟨_, _, _, rfl, h, t, fun q hq => List.mem_cons_of_mem _ hq, z⟩
theorem Own.tups {F : List Addr} {v : V} {ds : List D} (h : Own K G H F v (.tup ds)) : ∃ p vs, v = .ref p ∧ H p = some (.tup vs) ∧ OwnL K G H F vs ds ∧ ds.length ≤ sizeLine := by
  cases h with
  | tup h t z => exact ⟨_, _, rfl, h, t, z⟩
theorem OwnL.ints : ∀ {F : List Addr} {vs : List V} {ds : List D} {ns : List Int}, OwnL K G H F vs ds → intsOf ds = some ns → vs = ns.map V.int
  | _, _, _, _, .nil, e => by
    rw [intsOf] at e
    cases e
    rfl
  | _, _, _, ns, .cons (d := d) (ds := ds) h t n, e => by
    cases d with
    | int i =>
      rw [intsOf] at e
      cases e' : intsOf ds with
      | none =>
        rw [e'] at e
        cases e
      | some ms =>
        rw [e'] at e
        cases e
        cases h
        rw [OwnL.ints t e']
        rfl
    | _ => simp [intsOf] at e
theorem ints_get : ∀ {ds : List D} {ns : List Int}, intsOf ds = some ns → ds = ns.map .int
  | [], _, e => by
    rw [intsOf] at e
    cases e
    rfl
  | d :: ds, ns, e => by
    cases d with
    | int i =>
      rw [intsOf] at e
      cases e' : intsOf ds with
      | none =>
        rw [e'] at e
        cases e
      | some ms =>
        rw [e'] at e
        cases e
        rw [ints_get e']
        rfl
    | _ => simp [intsOf] at e
end

/-- an operation on two values whose answer is a scalar -/
def Sc2 (K : PySem.W.Frag) (r : R2) (f : D → D → Option D) : Prop := ∀ x y z, f x y = some z → ∀ (G : Addr → Prop) (H : Hp) (F1 F2 : List Addr) (v w : V) (Q : VK), Own K G H F1 v x → Own K G H F2 w y → (∀ u, Own K NoG H [] u z → Q u H) → r v w H Q
theorem OpR.or {X : Cx} {f : Value → Value → Sem Value} {r r' : R2} (h : OpR X f r) (h' : OpR X f r') : OpR X f (fun x y H Q => r x y H Q ∨ r' x y H Q) := by
  intro pins s σ H x y v u Q I rx ry q
  rcases q with q | q
  · exact h pins s σ H x y v u Q I rx ry q
  · exact h' pins s σ H x y v u Q I rx ry q
def Bop.py : Bop → Operator
  | .add => .Add
  | .sub => .Sub
  | .mul => .Mult
  | .fdiv => .FloorDiv
  | .mod => .Mod
  | .pow => .Pow
theorem divOk_w {i j : Int} (h : divOk j = true) : CDivW i j := by
  rw [divOk_eq] at h; unfold divOk0 at h
  rw [Bool.and_eq_true] at h
  have h1 := of_decide_eq_true h.1
  have h2 := of_decide_eq_true h.2
  exact wide_div h1 (b := 128) (by omega) (by decide) (by decide)
theorem bop_ok {X : Cx} (o : Bop) : ∃ r, OpR X (binaryOp o.py) r ∧ Sc2 X.K r o.sem := by
  cases o with
  | add =>
    refine ⟨_, op_add.or op_add_str, fun x y z hz G H F1 F2 v w Q h1 h2 q => ?_⟩
    rcases sem_add_int hz h1 h2 with ⟨i, j, rfl, rfl, rfl⟩ | ⟨i, j, rfl, rfl, l, rfl⟩
    · exact .inl ⟨i, j, rfl, rfl, q _ .int⟩
    · exact .inr ⟨i, j, rfl, rfl, l, q _ .str⟩
  | sub =>
    refine ⟨_, op_sub, fun x y z hz G H F1 F2 v w Q h1 h2 q => ?_⟩
    cases h1 <;> cases h2 <;> simp only [Bop.sem] at hz <;> cases hz
    exact ⟨_, _, rfl, rfl, q _ .int⟩
  | mul =>
    refine ⟨_, op_mul, fun x y z hz G H F1 F2 v w Q h1 h2 q => ?_⟩
    cases h1 <;> cases h2 <;> simp only [Bop.sem] at hz <;> try cases hz
    split at hz
    · rename_i h
      cases hz
      refine ⟨_, _, rfl, rfl, ?_, q _ .int⟩
      rw [mulOk_eq] at h; unfold mulOk0 at h
      simp only [Bool.or_eq_true, Bool.and_eq_true, decide_eq_true_eq] at h
      exact h
    · cases hz
  | fdiv =>
    refine ⟨_, op_fdivW, fun x y z hz G H F1 F2 v w Q h1 h2 q => ?_⟩
    cases h1 <;> cases h2 <;> simp only [Bop.sem] at hz <;> try cases hz
    split at hz
    · rename_i h
      cases hz
      exact ⟨_, _, rfl, rfl, divOk_w h, q _ .int⟩
    · cases hz
  | mod =>
    refine ⟨_, op_mod, fun x y z hz G H F1 F2 v w Q h1 h2 q => ?_⟩
    cases h1 <;> cases h2 <;> simp only [Bop.sem] at hz <;> try cases hz
    split at hz
    · rename_i h
      cases hz
      exact ⟨_, _, rfl, rfl, h, q _ .int⟩
    · cases hz
  | pow =>
    refine ⟨_, op_pow, fun x y z hz G H F1 F2 v w Q h1 h2 q => ?_⟩
    cases h1 <;> cases h2 <;> simp only [Bop.sem] at hz <;> try cases hz
    split at hz
    · rename_i h
      cases hz
      rw [powOk_eq] at h; unfold powOk0 at h
      simp only [Bool.and_eq_true, decide_eq_true_eq] at h
      exact ⟨_, _, rfl, rfl, ⟨h.1.1, h.1.2, h.2⟩, q _ .int⟩
    · cases hz
def Cop.py : Cop → CmpOp
  | .eq => .Eq
  | .ne => .NotEq
  | .lt => .Lt
  | .le => .LtE
  | .gt => .Gt
  | .ge => .GtE
  | .isin => .In
  | .notin => .NotIn
  | .isn => .Is
  | .notn => .IsNot
abbrev Cop.semD (o : Cop) : D → D → Option D := fun x y => (o.sem x y).map .bl
/-- t >= u of two pairs of ints -/
theorem op_geP {X : Cx} (hu : X.A.units < cLine) : OpR X (compareOp .GtE) (fun x y H Q => ∃ (t t' : Addr) (i j k l : Int), x = .ref t ∧ y = .ref t' ∧ SqT X.K H t [.int i, .int j] ∧ SqT X.K H t' [.int k, .int l] ∧ Q (.bl (if i = k then decide (l ≤ j) else decide (k ≤ i))) H) := by
  intro pins s σ H x y v u Q I rx ry h
  obtain ⟨a, b, i, j, k, l, rfl, rfl, ha, hb, q⟩ := h
  cases rx
  cases ry
  obtain ⟨its, r1, p1, _⟩ := I.tuple ha
  obtain ⟨its2, r2, p2, _⟩ := I.tuple hb
  obtain ⟨u1, u2, rfl, ⟨t1, rfl⟩, ⟨t2, rfl⟩⟩ := vals2 r1
  obtain ⟨w1, w2, rfl, ⟨t3, rfl⟩, ⟨t4, rfl⟩⟩ := vals2 r2
  have bd : ∀ m n : Int, (m == n) = decide (m = n) := fun m n => by
    by_cases h : m = n
    · rw [decide_eq_true h]
      exact beq_iff_eq.mpr h
    · rw [decide_eq_false h]
      exact beq_eq_false_iff_ne.mpr h
  have rule := Ob.RcOp.tuples_ge (A := X.A) (s := s) (e := fun n => match n with | 0 => (i == k) | _ => (j == l)) (r := fun n => match n with | 0 => decide (k ≤ i) | _ => decide (l ≤ j)) p1 p2 hu
    (fun n h1 h2 => match n, h1, h2 with
      | 0, _, _ => SeqAt.EqAt.int_int _ _ _ _
      | 1, _, _ => SeqAt.EqAt.int_int _ _ _ _
      | n + 2, h1, _ => absurd h1 (by simp))
    (fun n h1 h2 _ => match n, h1, h2 with
      | 0, _, _ => Ob.RcOp.ge_int _ _ _ _
      | 1, _, _ => Ob.RcOp.ge_int _ _ _ _
      | n + 2, h1, _ => absurd h1 (by simp))
  have go := rule X.prog X.w X.xe (EP X pins σ Q) ⟨.bl _, H, I, rfl, ?_⟩
  · exact go
  · have e : Ob.lexAt (fun n => match n with | 0 => (i == k) | _ => (j == l)) (fun n => match n with | 0 => decide (k ≤ i) | _ => decide (l ≤ j)) (decide ((2 : Nat) ≥ 2)) 0 (min 2 2) = if i = k then decide (l ≤ j) else decide (k ≤ i) := by
      show (if (i == k) = true then (if (j == l) = true then decide ((2 : Nat) ≥ 2) else decide (l ≤ j)) else decide (k ≤ i)) = _
      rw [bd, bd]
      by_cases h1 : i = k
      · by_cases h2 : j = l
        · simp [h1, h2]
        · simp [h1, h2]
      · simp [h1]
    exact e ▸ q
/-- is None, or is one of two truths -/
theorem op_isW {X : Cx} : OpR X (compareOp .Is) (fun x y H Q => (y = .non ∧ Q (.bl (decide (x = .non))) H) ∨ ∃ a b, x = .bl a ∧ y = .bl b ∧ Q (.bl (a == b)) H) := by
  intro pins s σ H x y v u Q I rx ry h
  rcases h with h | ⟨a, b, rfl, rfl, q⟩
  · exact op_isN pins s σ H x y v u Q I rx ry h
  · cases (show v = Value.bool a from rx)
    cases (show u = Value.bool b from ry)
    by_cases e : a = b
    · subst e
      exact wpAny_is_self rfl (fin_bl I q (by simp))
    · exact wpAny_is_other rfl (fun z => e (Value.bool.inj z)) (fin_bl I q (by simpa using e))
theorem op_isNotW {X : Cx} : OpR X (compareOp .IsNot) (fun x y H Q => (y = .non ∧ Q (.bl (!decide (x = .non))) H) ∨ ∃ a b, x = .bl a ∧ y = .bl b ∧ Q (.bl (!(a == b))) H) := by
  intro pins s σ H x y v u Q I rx ry h
  rcases h with h | ⟨a, b, rfl, rfl, q⟩
  · exact op_notN pins s σ H x y v u Q I rx ry h
  · cases (show v = Value.bool a from rx)
    cases (show u = Value.bool b from ry)
    by_cases e : a = b
    · subst e
      exact wpAny_isNot_self rfl (fin_bl I q (by simp))
    · exact wpAny_isNot_other rfl (fun z => e (Value.bool.inj z)) (fin_bl I q (by simpa using e))
theorem ge_cases {x y z : D} (h : Cop.semD .ge x y = some z) : (∃ i j, x = .int i ∧ y = .int j ∧ z = .bl (decide (j ≤ i))) ∨ ∃ i j k l, x = .tup [.int i, .int j] ∧ y = .tup [.int k, .int l] ∧ z = .bl (if i = k then decide (l ≤ j) else decide (k ≤ i)) := by
  obtain ⟨b, h1, rfl⟩ := Option.map_eq_some_iff.mp h
  unfold Cop.sem at h1
  split at h1 <;> first | (rename_i e; cases e; done) | skip
  all_goals first
    | (cases h1; exact .inl ⟨_, _, rfl, rfl, rfl⟩)
    | (cases h1; exact .inr ⟨_, _, _, _, rfl, rfl, rfl⟩)
    | (cases h1; done)
    | (rename_i e _ _; cases e)
/-- == beside [] or a tuple of ints -/
theorem own_eqI {K : PySem.W.Frag} {G : Addr → Prop} {H : Hp} {F : List Addr} {v : V} {d : D} {i : Int} (o : Own K G H F v d) (ns : notScr d = true) : EqI H v i (eqD d (.int i)) := by
  cases o with
  | non => simp only [eqD]; exact .non
  | bl => simp only [eqD]; exact .bl
  | int => simp only [eqD]; exact .int
  | str => simp only [eqD]; exact .str
  | tup h _ _ => simp only [eqD]; exact .tup h
  | scrR _ _ _ => cases ns
  | scrK _ _ => cases ns
  | frz _ h _ _ => simp only [eqD]; exact .lst h
  | lst h _ _ _ => simp only [eqD]; exact .lst h
  | dfz _ h _ _ _ => simp only [eqD]; exact .dct h
  | dct h _ _ _ _ => simp only [eqD]; exact .dct h
  | exn _ _ => cases ns
def eAt (xs : List D) (is : List Int) (j : Nat) : Bool := match xs[j]?, is[j]? with
  | some d, some i => eqD d (.int i)
  | _, _ => true
theorem eq_all : ∀ (xs : List D) (is : List Int), eqAll (eAt xs is) xs.length is.length = eqDs xs (is.map .int)
  | [], [] => rfl
  | [], i :: is => by simp [eqAll, eqDs]
  | x :: xs, [] => by simp [eqAll, eqDs]
  | x :: xs, i :: is => by
    have ih := eq_all xs is
    simp only [eqAll] at ih ⊢
    rw [List.map_cons, eqDs, ← ih, List.length_cons, List.length_cons, Nat.succ_min_succ, List.range_succ_eq_map, List.all_cons, List.all_map]
    have e1 : eAt (x :: xs) (i :: is) 0 = eqD x (.int i) := rfl
    have e2 : (eAt (x :: xs) (i :: is) ∘ Nat.succ) = eAt xs is := by
      funext j
      simp [eAt]
    have e3 : (xs.length + 1 == is.length + 1) = (xs.length == is.length) := by
      rw [Bool.eq_iff_iff]
      simp
    rw [e1, e2, e3, Bool.and_assoc]
theorem eqX_sem {K : PySem.W.Frag} {G : Addr → Prop} {H : Hp} {F1 F2 : List Addr} {v w : V} {x y : D} {Q : VK} {ng : Bool} (h : eqX x y = true) (h1 : Own K G H F1 v x) (h2 : Own K G H F2 w y) (q : Q (.bl (ng != eqD x y)) H) : rEqX ng v w H Q := by
  unfold eqX at h
  split at h
  · rename_i ds
    obtain ⟨p, us, F', rfl, hp, o1, _, _⟩ := h1.seq
    obtain ⟨p2, us2, F2', rfl, hp2, o2, _, _⟩ := h2.seq
    have e2 : us2 = [] := List.length_eq_zero_iff.mp o2.len
    subst e2
    refine .inr ⟨p, p2, rfl, rfl, .inl ⟨us, hp, hp2, ?_⟩⟩
    have e : us.isEmpty = eqD (.lst ds) (.lst []) := by
      have l := o1.len
      cases us <;> cases ds <;> first | rfl | (simp at l) | simp [eqD, eqDs]
    rw [e]
    exact q
  · rename_i xs ys
    rw [Bool.and_eq_true] at h
    obtain ⟨is, hi⟩ := Option.isSome_iff_exists.mp h.1
    obtain ⟨p, us, rfl, hp, o1, _⟩ := h1.tups
    obtain ⟨p2, us2, rfl, hp2, o2, _⟩ := h2.tups
    have e2 := o2.ints hi
    subst e2
    have e3 := ints_get hi
    subst e3
    refine .inr ⟨p, p2, rfl, rfl, .inr ⟨us, is, eAt xs is, hp, hp2, fun j v i a b => ?_, ?_⟩⟩
    · have hj : j < xs.length := by rw [← o1.len]; exact (List.getElem?_eq_some_iff.mp a).1
      have hx : xs[j]? = some xs[j] := List.getElem?_eq_getElem hj
      obtain ⟨v', F', g1, g2, _⟩ := o1.get hx
      rw [a] at g1
      cases g1
      have ns : notScr xs[j] = true := List.all_eq_true.mp h.2 _ (List.getElem_mem hj)
      have := own_eqI (i := i) g2 ns
      unfold eAt
      rw [hx, b]
      exact this
    · have e : eqAll (eAt xs is) us.length is.length = eqD (.tup xs) (.tup (is.map .int)) := by
        rw [o1.len, eq_all]
        simp only [eqD]
      rw [e]
      exact q
  · cases h1
    cases h2
    refine .inl ⟨_, _, rfl, rfl, ?_⟩
    simp only [eqD] at q
    exact q
  · cases h
theorem cop_ok {X : Cx} (hu : X.A.units + 65 < cLine) (o : Cop) : ∃ r, OpR X (compareOp o.py) r ∧ Sc2 X.K r o.semD := by
  cases o with
  | eq =>
    refine ⟨_, (op_eqD (by omega)).or (op_eqX (by omega)), fun x y z hz G H F1 F2 v w Q h1 h2 q => ?_⟩
    simp only [Cop.semD, Cop.sem] at hz
    split at hz
    · rename_i h
      unfold eqOk at h
      rw [Bool.or_eq_true, Bool.and_eq_true] at h
      cases hz
      rcases h with h | h
      · refine .inl ⟨_, _, h1.dp h.1, h2.dp h.2, shp_shaped h.1, shp_shaped h.2, ?_⟩
        rw [eqv_toP]
        exact q _ .bl
      · refine .inr (eqX_sem h h1 h2 ?_)
        have := q _ (.bl (b := eqD x y))
        simpa using this
    · cases hz
  | ne =>
    refine ⟨_, (op_neD (by omega)).or (op_neX (by omega)), fun x y z hz G H F1 F2 v w Q h1 h2 q => ?_⟩
    simp only [Cop.semD, Cop.sem] at hz
    split at hz
    · rename_i h
      unfold eqOk at h
      rw [Bool.or_eq_true, Bool.and_eq_true] at h
      cases hz
      rcases h with h | h
      · refine .inl ⟨_, _, h1.dp h.1, h2.dp h.2, shp_shaped h.1, shp_shaped h.2, ?_⟩
        rw [eqv_toP]
        exact q _ .bl
      · refine .inr (eqX_sem h h1 h2 ?_)
        have := q _ (.bl (b := !eqD x y))
        simpa using this
    · cases hz
  | isin =>
    refine ⟨_, op_inD hu, fun x y z hz G H F1 F2 v w Q h1 h2 q => ?_⟩
    cases y <;> simp only [Cop.semD, Cop.sem] at hz <;> try cases hz
    rename_i ds
    split at hz
    · rename_i h
      rw [Bool.and_eq_true] at h
      cases hz
      have h2' := h2.dp h.2
      have s2 := shp_shaped h.2
      rw [D.toP] at h2' s2
      refine ⟨_, _, h1.dp h.1, h2', shp_shaped h.1, s2, ?_⟩
      have e : ((D.toPs ds).any fun z => PyData.eqv z x.toP) = ds.any fun z => eqD z x := by
        rw [toPs_eq, List.any_map]
        exact congrArg (fun f => ds.any f) (funext fun z => eqv_toP z x)
      rw [e]
      exact q _ .bl
    · cases hz
  | notin =>
    refine ⟨_, op_notInD hu, fun x y z hz G H F1 F2 v w Q h1 h2 q => ?_⟩
    cases y <;> simp only [Cop.semD, Cop.sem] at hz <;> try cases hz
    rename_i ds
    split at hz
    · rename_i h
      rw [Bool.and_eq_true] at h
      cases hz
      have h2' := h2.dp h.2
      have s2 := shp_shaped h.2
      rw [D.toP] at h2' s2
      refine ⟨_, _, h1.dp h.1, h2', shp_shaped h.1, s2, ?_⟩
      have e : ((D.toPs ds).any fun z => PyData.eqv z x.toP) = ds.any fun z => eqD z x := by
        rw [toPs_eq, List.any_map]
        exact congrArg (fun f => ds.any f) (funext fun z => eqv_toP z x)
      rw [e]
      exact q _ .bl
    · cases hz
  | lt =>
    refine ⟨_, op_lt.or (op_ltT (by omega)), fun x y z hz G H F1 F2 v w Q h1 h2 q => ?_⟩
    cases x <;> cases y <;> simp only [Cop.semD, Cop.sem] at hz <;> try cases hz
    · cases h1
      cases h2
      exact .inl ⟨_, _, rfl, rfl, q _ .bl⟩
    · rename_i xs ys
      obtain ⟨p, vs, rfl, s1, o1, _⟩ := h1.tups
      obtain ⟨p', ws, rfl, s2, o2, _⟩ := h2.tups
      cases e1 : intsOf xs with
      | none =>
        rw [e1] at hz
        cases hz
      | some ns =>
        cases e2 : intsOf ys with
        | none =>
          rw [e1, e2] at hz
          cases hz
        | some ms =>
          rw [e1, e2] at hz
          cases hz
          rw [o1.ints e1] at s1
          rw [o2.ints e2] at s2
          exact .inr ⟨p, p', ns, ms, rfl, rfl, SqT.of s1, SqT.of s2, q _ .bl⟩
  | le =>
    refine ⟨_, op_le, fun x y z hz G H F1 F2 v w Q h1 h2 q => ?_⟩
    cases h1 <;> cases h2 <;> simp only [Cop.semD, Cop.sem] at hz <;> cases hz
    exact ⟨_, _, rfl, rfl, q _ .bl⟩
  | gt =>
    refine ⟨_, op_gt, fun x y z hz G H F1 F2 v w Q h1 h2 q => ?_⟩
    cases h1 <;> cases h2 <;> simp only [Cop.semD, Cop.sem] at hz <;> cases hz
    exact ⟨_, _, rfl, rfl, q _ .bl⟩
  | ge =>
    refine ⟨_, op_ge.or (op_geP (by omega)), fun x y z hz G H F1 F2 v w Q h1 h2 q => ?_⟩
    rcases ge_cases hz with ⟨i, j, rfl, rfl, rfl⟩ | ⟨i, j, k, l, rfl, rfl, rfl⟩
    · cases h1
      cases h2
      exact .inl ⟨_, _, rfl, rfl, q _ .bl⟩
    · obtain ⟨p, vs, rfl, s1, o1, _⟩ := h1.tups
      obtain ⟨p', ws, rfl, s2, o2, _⟩ := h2.tups
      have e1 := o1.ints rfl
      have e2 := o2.ints rfl
      subst e1
      subst e2
      exact .inr ⟨p, p', _, _, _, _, rfl, rfl, SqT.of s1, SqT.of s2, q _ .bl⟩
  | isn =>
    refine ⟨_, op_isW, fun x y z hz G H F1 F2 v w Q h1 h2 q => ?_⟩
    cases y <;> cases x <;> simp only [Cop.semD, Cop.sem] at hz <;> (try cases hz) <;> cases h2 <;> cases h1 <;> first
      | exact .inl ⟨rfl, q _ .bl⟩
      | exact .inr ⟨_, _, rfl, rfl, q _ .bl⟩
  | notn =>
    refine ⟨_, op_isNotW, fun x y z hz G H F1 F2 v w Q h1 h2 q => ?_⟩
    cases y <;> cases x <;> simp only [Cop.semD, Cop.sem] at hz <;> (try cases hz) <;> cases h2 <;> cases h1 <;> first
      | exact .inl ⟨rfl, q _ .bl⟩
      | exact .inr ⟨_, _, rfl, rfl, q _ .bl⟩
end CW
/-! The rules for expressions: comparisons, tests, displays, items, what makes lists. -/
namespace CW
open PySem L2

/-- the whole of a test is its value's truth -/
def plainTest : Expr → Bool
  | .UnaryOp .Not _ _ => false
  | .BoolOp _ _ _ => false
  | .IfExp _ _ _ _ => false
  | .Compare _ _ _ _ => false
  | _ => true
theorem plainTest_ok {e : Expr} (h : plainTest e = true) (env : PySem.Env) : ∀ whole, isTrue e env whole = (do let v ← whole; standAt e.pos; holding [v] (truthy v)) := by
  intro whole
  cases e with
  | UnaryOp op a p => cases op <;> first | rfl | cases h
  | BoolOp op a p => cases h
  | IfExp a b c p => cases h
  | Compare a b c p => cases h
  | _ => rfl
def noStar : Expr → Bool
  | .Starred _ _ => false
  | _ => true
theorem noStar_ok {e : Expr} {es : List Expr} (h : noStar e = true) (env : PySem.Env) : starEach (e :: es) env = (false, eval e env) :: starEach es env := by
  cases e <;> first | rfl | cases h
theorem noStars_ok : ∀ {es : List Expr} (h : es.all noStar = true) (env : PySem.Env) (pos : Pos), (backTo pos (starEach es env)).any (·.1) = false
  | [], _, _, _ => rfl
  | e :: es, h, env, pos => by
    rw [List.all_cons, Bool.and_eq_true] at h
    rw [noStar_ok h.1]
    have ih := noStars_ok h.2 env pos
    show (false || (backTo pos (starEach es env)).any (·.1)) = false
    rw [ih]
    rfl
def plainIx : Expr → Bool
  | .Slice _ _ _ _ => false
  | _ => true
theorem plainIx_ok {b : Expr} (h : plainIx b = true) : PlainIx b := by
  intro o i
  cases b <;> first | rfl | cases h

section
variable (X : Cx) (φ : FEnv) (ks : List Kd) (cl : Nat → Addr) (E : L2.St → XK)
/-- an expression that stands as a test as well -/
def SndV (e : Expr) (ir : CW.E) (m : Md) (eff : List Nat) : Prop :=
  ∃ t, PE X e t ∧ PT X e (tB t) ∧ ∀ G H σ Γ Φ (Q : VK), SI X.K ks G H σ Γ Φ → DenR X ks cl E eff (RelE X m eff H Φ) (evE φ ir Γ) G H σ Γ Φ Q → t σ H Q
/-- and, or as a test -/
def SndW (op : BoolOp) (es : List Expr) (pos : Pos) (ir : CW.E) (eff : List Nat) : Prop :=
  ∃ t, PW X (.BoolOp op es pos) t ∧ ∀ G H σ Γ Φ (Q : Bool → Hp → Prop), SI X.K ks G H σ Γ Φ → DenR X ks cl E eff (fun _ _ _ d v => v = d) (evC φ (some ir) Γ) G H σ Γ Φ Q → t σ H Q
end
section
variable {X : Cx} {φ : FEnv} {ks : List Kd} {cl : Nat → Addr} {E : L2.St → XK} {G G1 G2 : Addr → Prop} {H H1 H2 : Hp} {σ : L2.St} {Γ Γ1 Γ2 : Env} {Φ Φ1 Φ2 : Nat → List Addr}
variable {a b c e : Expr} {a' b' c' ir : CW.E} {m ma mb mc : Md} {eff ea eb ec : List Nat} {pos : Pos} {es : List Expr}

theorem SndV.toE (h : SndV X φ ks cl E e ir m eff) : SndE X φ ks cl E e ir m eff := let ⟨t, p, _, q⟩ := h; ⟨t, p, q⟩
theorem SndE.toV (h : SndE X φ ks cl E e ir m eff) (hp : plainTest e = true) : SndV X φ ks cl E e ir m eff := let ⟨t, p, q⟩ := h; ⟨t, p, pt_val p (plainTest_ok hp _), q⟩
theorem SndV.toT (h : SndV X φ ks cl E e ir m eff) : SndT X φ ks cl E e ir eff := by
  obtain ⟨t, _, p, q⟩ := h
  refine ⟨_, p, fun G H σ Γ Φ Q I h => ?_⟩
  simp only [evC] at h
  refine q G H σ Γ Φ _ I (h.seq (fun _ h => h) fun d Γ1 G1 H1 Φ1 v I1 s1 r1 h1 => ?_)
  obtain ⟨F, r1, _⟩ := r1
  have o := r1.own
  cases d with
  | bl k =>
    cases o
    exact ⟨k, rfl, h1.here I1 rfl⟩
  | _ => exact h1.elim

theorem sub_l {e1 e2 : List Nat} : ∀ i ∈ e1, i ∈ e1 ++ e2 := fun _ h => List.mem_append_left _ h
theorem sub_r {e1 e2 : List Nat} : ∀ i ∈ e2, i ∈ e1 ++ e2 := fun _ h => List.mem_append_right _ h
theorem sub_all {e : List Nat} : ∀ i ∈ e, i ∈ e := fun _ h => h

/-! ### comparisons -/
theorem snd_cmp (hu : X.A.units + 65 < cLine) (o : Cop) (hm : behindInMarks o.py b = false) (ha : SndE X φ ks cl E a a' ma ea) (hb : SndE X φ ks cl E b b' mb eb) (off : ma.off eb = true) :
    SndV X φ ks cl E (.Compare a [o.py] [b] pos) (.cmp o a' b') .im (ea ++ eb) := by
  obtain ⟨r, ho, hr⟩ := cop_ok hu o
  obtain ⟨ta, pa, qa⟩ := ha
  obtain ⟨tb, pb, qb⟩ := hb
  refine ⟨_, pe_cmpR ho pa pb hm, pt_cmpR ho pa pb hm, fun G H σ Γ Φ Q I h => ?_⟩
  simp only [evE] at h
  refine qa G H σ Γ Φ _ I (h.seq sub_l fun x Γ1 G1 H1 Φ1 v I1 s1 r1 h1 => ?_)
  refine qb G1 H1 σ Γ1 Φ1 _ I1 (h1.seq sub_r fun y Γ2 G2 H2 Φ2 w I2 s2 r2 h2 => ?_)
  obtain ⟨F1, r1, _⟩ := r1
  obtain ⟨F2, r2, _⟩ := r2
  obtain ⟨z, ez, k⟩ := h2.fin (α := Unit) I2
  exact hr x y z ez G2 H2 F1 F2 v w Q (r1.step I1 s2 off).own r2.own fun u ou => k H2 u (fun _ _ h => h) (rel_im ou)
theorem snd_chain (hu : X.A.units + 65 < cLine) (o o' : Cop) (hm : lastMarks [o.py, o'.py] [b, c] = false) (ha : SndE X φ ks cl E a a' ma ea) (hb : SndE X φ ks cl E b b' mb eb) (hc : SndE X φ ks cl E c c' mc ec) (off : ma.off eb = true) (off' : mb.off ec = true) :
    SndV X φ ks cl E (.Compare a [o.py, o'.py] [b, c] pos) (.chain o o' a' b' c') .im (ea ++ (eb ++ ec)) := by
  obtain ⟨r, ho, hr⟩ := cop_ok hu o
  obtain ⟨r', ho', hr'⟩ := cop_ok hu o'
  obtain ⟨ta, pa, qa⟩ := ha
  obtain ⟨tb, pb, qb⟩ := hb
  obtain ⟨tc, pc, qc⟩ := hc
  refine ⟨_, pe_chain ho ho' pa pb pc hm, pt_chain ho ho' pa pb pc hm, fun G H σ Γ Φ Q I h => ?_⟩
  simp only [evE] at h
  refine qa G H σ Γ Φ _ I (h.seq sub_l fun x Γ1 G1 H1 Φ1 v I1 s1 r1 h1 => ?_)
  refine qb G1 H1 σ Γ1 Φ1 _ I1 (h1.seq (fun i h => sub_r i (sub_l i h)) fun y Γ2 G2 H2 Φ2 w I2 s2 r2 h2 => ?_)
  obtain ⟨F1, r1, _⟩ := r1
  obtain ⟨F2, r2, _⟩ := r2
  cases hz : o.sem x y with
  | none =>
    rw [hz] at h2
    exact h2.elim
  | some k =>
    rw [hz] at h2
    simp only [ofo_some, bind_ok] at h2
    refine hr x y (.bl k) (by rw [Cop.semD, hz]; rfl) G2 H2 F1 F2 v w _ (r1.step I1 s2 off).own r2.own fun u ou => ?_
    cases ou
    refine ⟨k, rfl, ?_⟩
    cases k with
    | false => exact iteF (h2.here I2 (rel_im .bl))
    | true =>
      refine iteT (qc G2 H2 σ Γ2 Φ2 _ I2 (DenR.seq (if_pos rfl ▸ h2) (fun i h => sub_r i (sub_r i h)) fun z Γ3 G3 H3 Φ3 w' I3 s3 r3 h3 => ?_))
      obtain ⟨F3, r3, _⟩ := r3
      obtain ⟨z', ez, k⟩ := h3.fin (α := Unit) I3
      exact hr' y z z' ez G3 H3 F2 F3 w w' Q (r2.step I2 s3 off').own r3.own fun u ou => k H3 u (fun _ _ h => h) (rel_im ou)

/-! ### and, or, not -/
theorem sw_and1 (ha : SndT X φ ks cl E a a' ea) : SndW X φ ks cl E .And [a] pos a' ea := by
  obtain ⟨t, p, q⟩ := ha
  exact ⟨t, pw_and1 p, q⟩
theorem sw_or1 (ha : SndT X φ ks cl E a a' ea) : SndW X φ ks cl E .Or [a] pos a' ea := by
  obtain ⟨t, p, q⟩ := ha
  exact ⟨t, pw_or1 p, q⟩
theorem evC_and {Γ : Env} : evC φ (some (.and a' b')) Γ = (evC φ (some a') Γ).bind fun k Γ => if k then evC φ (some b') Γ else .ok false Γ := by
  simp only [evC, evE]
  cases evE φ a' Γ with
  | ok d Γ1 =>
    simp only [bind_ok]
    cases d with
    | bl k =>
      cases k with
      | true =>
        simp only [bind_ok]
        cases evE φ b' Γ1 with
        | ok d Γ2 =>
          simp only [bind_ok]
          cases d <;> rfl
        | _ => rfl
      | false => rfl
    | _ => rfl
  | _ => rfl
theorem evC_or {Γ : Env} : evC φ (some (.or a' b')) Γ = (evC φ (some a') Γ).bind fun k Γ => if k then .ok true Γ else evC φ (some b') Γ := by
  simp only [evC, evE]
  cases evE φ a' Γ with
  | ok d Γ1 =>
    simp only [bind_ok]
    cases d with
    | bl k =>
      cases k with
      | false =>
        simp only [bind_ok]
        cases evE φ b' Γ1 with
        | ok d Γ2 =>
          simp only [bind_ok]
          cases d <;> rfl
        | _ => rfl
      | true => rfl
    | _ => rfl
  | _ => rfl
theorem evC_not {Γ : Env} : evC φ (some (.not a')) Γ = (evC φ (some a') Γ).bind fun k Γ => .ok (!k) Γ := by
  simp only [evC, evE]
  cases evE φ a' Γ with
  | ok d Γ1 =>
    simp only [bind_ok]
    cases d <;> rfl
  | _ => rfl
theorem sw_and (ha : SndT X φ ks cl E a a' ea) (hb : SndW X φ ks cl E .And (b :: es) pos b' eb) : SndW X φ ks cl E .And (a :: b :: es) pos (.and a' b') (ea ++ eb) := by
  obtain ⟨t, p, q⟩ := ha
  obtain ⟨u, p', q'⟩ := hb
  refine ⟨_, pw_and p p', fun G H σ Γ Φ Q I h => ?_⟩
  rw [evC_and] at h
  refine q G H σ Γ Φ _ I (h.seq sub_l fun k Γ1 G1 H1 Φ1 v I1 s1 r1 h1 => ?_)
  obtain rfl : v = k := r1
  cases v with
  | true =>
    rw [if_pos rfl]
    exact q' G1 H1 σ Γ1 Φ1 _ I1 (by
      have h2 : DenR X ks cl E (ea ++ eb) (fun _ _ _ d v => v = d) ((evC φ (some b') Γ1).bind fun k Γ => .ok k Γ) G1 H1 σ Γ1 Φ1 Q := by
        have e : (evC φ (some b') Γ1).bind (fun k Γ => R.ok k Γ) = evC φ (some b') Γ1 := by cases evC φ (some b') Γ1 <;> rfl
        rw [e]
        exact h1
      exact h2.seq sub_r fun k Γ2 G2 H2 Φ2 v I2 s2 r2 h3 => by
        subst r2
        exact h3.here I2 rfl)
  | false =>
    rw [if_neg Bool.false_ne_true]
    exact DenR.here h1 I1 rfl
theorem sw_or (ha : SndT X φ ks cl E a a' ea) (hb : SndW X φ ks cl E .Or (b :: es) pos b' eb) : SndW X φ ks cl E .Or (a :: b :: es) pos (.or a' b') (ea ++ eb) := by
  obtain ⟨t, p, q⟩ := ha
  obtain ⟨u, p', q'⟩ := hb
  refine ⟨_, pw_or p p', fun G H σ Γ Φ Q I h => ?_⟩
  rw [evC_or] at h
  refine q G H σ Γ Φ _ I (h.seq sub_l fun k Γ1 G1 H1 Φ1 v I1 s1 r1 h1 => ?_)
  obtain rfl : v = k := r1
  cases v with
  | false =>
    rw [if_neg Bool.false_ne_true]
    exact q' G1 H1 σ Γ1 Φ1 _ I1 (by
      have h2 : DenR X ks cl E (ea ++ eb) (fun _ _ _ d v => v = d) ((evC φ (some b') Γ1).bind fun k Γ => .ok k Γ) G1 H1 σ Γ1 Φ1 Q := by
        have e : (evC φ (some b') Γ1).bind (fun k Γ => R.ok k Γ) = evC φ (some b') Γ1 := by cases evC φ (some b') Γ1 <;> rfl
        rw [e]
        exact h1
      exact h2.seq sub_r fun k Γ2 G2 H2 Φ2 v I2 s2 r2 h3 => by
        subst r2
        exact h3.here I2 rfl)
  | true =>
    rw [if_pos rfl]
    exact DenR.here h1 I1 rfl
theorem SndW.toT {op : BoolOp} (h : SndW X φ ks cl E op es pos ir eff) : SndT X φ ks cl E (.BoolOp op es pos) ir eff := by
  obtain ⟨t, p, q⟩ := h
  exact ⟨t, p.pt, q⟩
theorem st_not (ha : SndT X φ ks cl E a a' ea) : SndT X φ ks cl E (.UnaryOp .Not a pos) (.not a') ea := by
  obtain ⟨t, p, q⟩ := ha
  refine ⟨_, pt_not p, fun G H σ Γ Φ Q I h => ?_⟩
  rw [evC_not] at h
  exact q G H σ Γ Φ _ I (h.seq sub_all fun k Γ1 G1 H1 Φ1 v I1 s1 r1 h1 => by
    obtain rfl : v = k := r1
    exact h1.here I1 rfl)
/-- .. as values -/
theorem snd_not (ha : SndE X φ ks cl E a a' ma ea) : SndE X φ ks cl E (.UnaryOp .Not a pos) (.not a') .im ea := by
  obtain ⟨t, p, q⟩ := ha
  refine ⟨_, pe_not p, fun G H σ Γ Φ Q I h => ?_⟩
  simp only [evE] at h
  refine q G H σ Γ Φ _ I (h.seq sub_all fun d Γ1 G1 H1 Φ1 v I1 s1 r1 h1 => ?_)
  obtain ⟨F, r1, _⟩ := r1
  have o := r1.own
  cases d with
  | bl k =>
    cases o
    exact ⟨k, rfl, h1.here I1 (rel_im .bl)⟩
  | _ => exact h1.elim
theorem snd_one {op : BoolOp} (ha : SndE X φ ks cl E a a' ma ea) : SndE X φ ks cl E (.BoolOp op [a] pos) a' ma ea := by
  obtain ⟨t, p, q⟩ := ha
  exact ⟨t, pe_one p, q⟩
theorem snd_and (ha : SndE X φ ks cl E a a' ma ea) (hb : SndE X φ ks cl E (.BoolOp .And (b :: es) pos) b' mb eb) : SndE X φ ks cl E (.BoolOp .And (a :: b :: es) pos) (.and a' b') .im (ea ++ eb) := by
  obtain ⟨t, p, q⟩ := ha
  obtain ⟨u, p', q'⟩ := hb
  refine ⟨_, pe_and p p', fun G H σ Γ Φ Q I h => ?_⟩
  simp only [evE] at h
  refine q G H σ Γ Φ _ I (h.seq sub_l fun d Γ1 G1 H1 Φ1 v I1 s1 r1 h1 => ?_)
  obtain ⟨F, r1, _⟩ := r1
  have o := r1.own
  cases d with
  | bl k =>
    cases o
    refine ⟨k, rfl, ?_⟩
    cases k with
    | false => exact iteF (h1.here I1 (rel_im .bl))
    | true =>
      refine iteT (q' G1 H1 σ Γ1 Φ1 _ I1 (h1.seq sub_r fun y Γ2 G2 H2 Φ2 w I2 s2 r2 h2 => ?_))
      obtain ⟨F2, r2, _⟩ := r2
      have o2 := r2.own
      cases y with
      | bl c =>
        cases o2
        exact h2.here I2 (rel_im .bl)
      | _ => exact h2.elim
  | _ => exact h1.elim
theorem snd_or (ha : SndE X φ ks cl E a a' ma ea) (hb : SndE X φ ks cl E (.BoolOp .Or (b :: es) pos) b' mb eb) : SndE X φ ks cl E (.BoolOp .Or (a :: b :: es) pos) (.or a' b') .im (ea ++ eb) := by
  obtain ⟨t, p, q⟩ := ha
  obtain ⟨u, p', q'⟩ := hb
  refine ⟨_, pe_or p p', fun G H σ Γ Φ Q I h => ?_⟩
  simp only [evE] at h
  refine q G H σ Γ Φ _ I (h.seq sub_l fun d Γ1 G1 H1 Φ1 v I1 s1 r1 h1 => ?_)
  obtain ⟨F, r1, _⟩ := r1
  have o := r1.own
  cases d with
  | bl k =>
    cases o
    refine ⟨k, rfl, ?_⟩
    cases k with
    | true => exact iteT (h1.here I1 (rel_im .bl))
    | false =>
      refine iteF (q' G1 H1 σ Γ1 Φ1 _ I1 (h1.seq sub_r fun y Γ2 G2 H2 Φ2 w I2 s2 r2 h2 => ?_))
      obtain ⟨F2, r2, _⟩ := r2
      have o2 := r2.own
      cases y with
      | bl c =>
        cases o2
        exact h2.here I2 (rel_im .bl)
      | _ => exact h2.elim
  | _ => exact h1.elim
theorem snd_neg (ha : SndE X φ ks cl E a a' ma ea) : SndE X φ ks cl E (.UnaryOp .USub a pos) (.neg a') .im ea := by
  obtain ⟨t, p, q⟩ := ha
  refine ⟨_, pe_un un_neg p, fun G H σ Γ Φ Q I h => ?_⟩
  simp only [evE] at h
  refine q G H σ Γ Φ _ I (h.seq sub_all fun d Γ1 G1 H1 Φ1 v I1 s1 r1 h1 => ?_)
  obtain ⟨F, r1, _⟩ := r1
  have o := r1.own
  cases d with
  | int k =>
    cases o
    exact ⟨k, rfl, h1.here I1 (rel_im .int)⟩
  | _ => exact h1.elim
end
end CW
/-! Displays, items, what makes new lists. -/
namespace CW
open PySem L2

def Md.le : Md → Md → Bool
  | .im, .rd _ => false
  | .im, _ => true
  | .sh, .sh => true
  | .sh, .os => true
  | .ow, .ow => true
  | .ow, .os => true
  | .os, .os => true
  | _, _ => false
section
variable {X : Cx} {φ : FEnv} {ks : List Kd} {cl : Nat → Addr} {E : L2.St → XK} {G G1 G2 G' : Addr → Prop} {H H0 H' H1 H2 : Hp} {σ : L2.St} {Γ Γ1 Γ2 : Env} {Φ Φ0 Φ1 Φ2 : Nat → List Addr}
variable {a b c e : Expr} {a' b' c' ir : CW.E} {m m' ma mb mc : Md} {eff eff' ea eb ec : List Nat} {pos : Pos} {es : List Expr} {irs : List CW.E} {F F' : List Addr} {v : V} {d : D} {vs : List V} {ds : List D} {K : PySem.W.Frag}

/-- as an item of what is made -/
def ResEl (K : PySem.W.Frag) (m : Md) (G : Addr → Prop) (H : Hp) (Φ : Nat → List Addr) (F : List Addr) (v : V) (d : D) : Prop := match m with
  | .im => F = [] ∧ Own K NoG H [] v d
  | .sh => F = [] ∧ Own K G H [] v d
  | .ow => Own K NoG H F v d ∧ Tmp G H Φ F
  | .os => Own K G H F v d ∧ Tmp G H Φ F
  | .rd _ => False
theorem Res.el (r : Res K m G H Φ F v d) (h : m.le m' = true) : ResEl K m' G H Φ F v d := by
  cases m <;> cases m' <;> first | (cases h; done) | exact r | skip
  · obtain ⟨rfl, r⟩ := r; exact ⟨rfl, r.mono NoG.le⟩
  · obtain ⟨rfl, r⟩ := r; exact ⟨r, Tmp.nil⟩
  · obtain ⟨rfl, r⟩ := r; exact ⟨r.mono NoG.le, Tmp.nil⟩
  · obtain ⟨rfl, r⟩ := r; exact ⟨r, Tmp.nil⟩
  · exact ⟨r.1.mono NoG.le, r.2⟩
  · exact ⟨r.1, r.2.1⟩
theorem ResEl.step (I : SI K ks G H σ Γ Φ) (r : ResEl K m G H Φ F v d) (s : Step eff G H Φ Γ G1 H1 Φ1 Γ1) : ResEl K m G1 H1 Φ1 F v d := by
  cases m with
  | im => obtain ⟨rfl, r⟩ := r; exact ⟨rfl, r.step0 I s fun _ h => nomatch h⟩
  | sh => obtain ⟨rfl, r⟩ := r; exact ⟨rfl, r.step I s fun _ h => nomatch h⟩
  | ow => exact ⟨r.1.step0 I s fun p hp i _ => (r.2 p hp).2.1 i, r.2.step s⟩
  | os => exact ⟨r.1.step I s fun p hp i _ => (r.2 p hp).2.1 i, r.2.step s⟩
  | rd _ => exact r.elim
theorem Org.mono (o : Org m eff H Φ F) (h : ∀ i ∈ eff, i ∈ eff') : Org m eff' H Φ F := fun t p hp => by
  rcases o t p hp with q | ⟨i, hi, q⟩
  · exact .inl q
  · exact .inr ⟨i, h i hi, q⟩
theorem Org.le (o : Org m eff H Φ F) (r : Res K m G1 H1 Φ1 F v d) (h : m.le m' = true) : Org m' eff H Φ F := fun t p hp => by
  cases m <;> first
    | (obtain ⟨rfl, _⟩ := r; exact absurd hp (List.not_mem_nil))
    | exact o rfl p hp
    | (cases m' <;> cases h)
/-- the same, told from an earlier state -/
theorem Org.back (s : Step eff' H0G H0 Φ0 Γ0 G H Φ Γ) (o : Org m eff H Φ F) : Org m (eff' ++ eff) H0 Φ0 F := fun t p hp => by
  rcases o t p hp with q | ⟨i, hi, q⟩
  · exact .inl (s.ex p q)
  · by_cases he : i ∈ eff'
    · rcases s.fn i he p q with ⟨j, hj, q⟩ | q
      · exact .inr ⟨j, List.mem_append_left _ hj, q⟩
      · exact .inl q
    · rw [(s.fx i he).1] at q
      exact .inr ⟨i, List.mem_append_right _ hi, q⟩
theorem ResD.step (I : SI K ks G H σ Γ Φ) (r : ResD K m G H Φ F vs ds) (s : Step eff G H Φ Γ G1 H1 Φ1 Γ1) : ResD K m G1 H1 Φ1 F vs ds := by
  have hw : Kp (fun p => ∃ i ∈ eff, p ∈ Φ i) H H1 := fun p o e n => s.kp p o e fun i hi q => n ⟨i, hi, q⟩
  have hg : ∀ p, G p → ¬ (∃ i ∈ eff, p ∈ Φ i) := fun p g ⟨i, _, q⟩ => I.gd i p q g
  cases m with
  | im => obtain ⟨rfl, r⟩ := r; exact ⟨rfl, r.keep hw (I.wl eff) (fun _ h => h.elim) (fun _ h => h) fun _ h => nomatch h⟩
  | sh => obtain ⟨rfl, r⟩ := r; exact ⟨rfl, r.keep hw (I.wl eff) hg s.g fun _ h => nomatch h⟩
  | ow => exact ⟨r.1.keep hw (I.wl eff) (fun _ h => h.elim) (fun _ h => h) fun p hp ⟨i, _, q⟩ => (r.2 p hp).2.1 i q, r.2.step s⟩
  | os => exact ⟨r.1.keep hw (I.wl eff) hg s.g fun p hp ⟨i, _, q⟩ => (r.2 p hp).2.1 i q, r.2.step s⟩
  | rd _ => exact r.elim
theorem ResD.len (r : ResD K m G H Φ F vs ds) : vs.length = ds.length := by
  cases m with
  | im => exact r.2.len
  | sh => exact r.2.len
  | ow => exact r.1.len
  | os => exact r.1.len
  | rd _ => exact r.elim
theorem evEs_len : ∀ {irs : List CW.E} {Γ Γ1 : Env} {ds : List D}, evEs φ irs Γ = .ok ds Γ1 → ds.length = irs.length
  | [], Γ, Γ1, ds, h => by
    rw [evEs] at h
    cases h
    rfl
  | ir :: irs, Γ, Γ1, ds, h => by
    rw [evEs] at h
    cases e1 : evE φ ir Γ with
    | ok d Γ2 =>
      rw [e1] at h
      simp only [bind_ok] at h
      cases e2 : evEs φ irs Γ2 with
      | ok ds' Γ3 =>
        rw [e2] at h
        simp only [bind_ok] at h
        cases h
        exact congrArg (· + 1) (evEs_len e2)
      | _ =>
        rw [e2] at h
        cases h
    | _ =>
      rw [e1] at h
      cases h

/-! ### what a display takes -/
theorem sd_nil (hm : m = .im ∨ m = .sh ∨ m = .ow ∨ m = .os) : SndD X φ ks cl E [] [] m [] := by
  refine ⟨_, pa_nil, fun G H σ Γ Φ Q I h => ?_⟩
  simp only [evEs] at h
  refine h.here I ⟨[], ?_, fun _ _ h => nomatch h⟩
  rcases hm with rfl | rfl | rfl | rfl
  · exact ⟨rfl, .nil⟩
  · exact ⟨rfl, .nil⟩
  · exact ⟨.nil, Tmp.nil⟩
  · exact ⟨.nil, Tmp.nil⟩
theorem sd_cons (hs : noStar e = true) (he : SndE X φ ks cl E e ir ma ea) (hle : ma.le m = true) (ht : SndD X φ ks cl E es irs m eb) : SndD X φ ks cl E (e :: es) (ir :: irs) m (ea ++ eb) := by
  obtain ⟨te, pe, qe⟩ := he
  obtain ⟨ta, pa, qa⟩ := ht
  refine ⟨_, pa_cons pe pa (noStar_ok hs _), fun G H σ Γ Φ Q I h => ?_⟩
  simp only [evEs] at h
  refine qe G H σ Γ Φ _ I (h.seq sub_l fun d Γ1 G1 H1 Φ1 v I1 s1 r1 h1 => ?_)
  refine qa G1 H1 σ Γ1 Φ1 _ I1 (h1.seq sub_r fun ds Γ2 G2 H2 Φ2 vs I2 s2 r2 h2 => ?_)
  obtain ⟨F1, r1, o1⟩ := r1
  obtain ⟨F2, r2, o2⟩ := r2
  have o1' := o1.le r1 hle
  have r1' := r1.el hle
  have nt : ∀ p ∈ F1, p ∉ F2 := fun p hp hq => by
    have go : m.tmp = true → Tmp G1 H1 Φ1 F1 → False := fun t tm => by
      obtain ⟨_, b, c⟩ := tm p hp
      rcases o2 t p hq with q | ⟨i, _, q⟩
      · exact c q
      · exact b i q
    cases m with
    | im => obtain ⟨rfl, _⟩ := r1'; exact nomatch hp
    | sh => obtain ⟨rfl, _⟩ := r1'; exact nomatch hp
    | ow => exact go rfl r1'.2
    | os => exact go rfl r1'.2
    | rd _ => exact r2.elim
  refine h2.here I2 ⟨F1 ++ F2, ?_, fun t p hp => ?_⟩
  · have r1'' := r1'.step I1 s2
    cases m with
    | im => obtain ⟨rfl, q⟩ := r1''; obtain ⟨rfl, q2⟩ := r2; exact ⟨rfl, .cons0 q q2⟩
    | sh => obtain ⟨rfl, q⟩ := r1''; obtain ⟨rfl, q2⟩ := r2; exact ⟨rfl, .cons0 q q2⟩
    | ow => exact ⟨.cons r1''.1 r2.1 nt, fun p hp => (List.mem_append.mp hp).elim (r1''.2 p) (r2.2 p)⟩
    | os => exact ⟨.cons r1''.1 r2.1 nt, fun p hp => (List.mem_append.mp hp).elim (r1''.2 p) (r2.2 p)⟩
    | rd _ => exact r2.elim
  · rcases List.mem_append.mp hp with hp | hp
    · exact (o1'.mono sub_l) t p hp
    · exact Org.back s1 o2 t p hp
theorem snd_tup {k : Nat} (hl : irs.length ≤ 1000) (hm : m ≠ .os) (h : SndD X φ ks cl E es irs m eff) : SndE X φ ks cl E (.Tuple es k pos) (.tup irs) m eff := by
  obtain ⟨t, p, q⟩ := h
  refine ⟨_, pe_tup p, fun G H σ Γ Φ Q I h => ?_⟩
  simp only [evE] at h
  refine q G H σ Γ Φ _ I ?_
  cases hev : evEs φ irs Γ with
  | bad =>
    rw [hev] at h
    exact h.elim
  | exc c Γ1 =>
    rw [hev] at h
    exact h
  | ok ds Γ1 =>
    rw [hev] at h
    simp only [bind_ok] at h
    intro G1 H1 Φ1 vs I1 s1 r1
    obtain ⟨F, r1, o1⟩ := r1
    have hlen := evEs_len hev
    have hvs := r1.len
    refine ⟨by have : (1000 : Nat) ≤ sizeLine := by decide
               omega, fun p hp => ?_⟩
    have ex := upd_ex (o := HO.tup vs) hp
    have gr : Step eff G1 H1 Φ1 Γ1 G1 (upd H1 p (.tup vs)) Φ1 Γ1 := (Step.grow ex).wider fun _ h => nomatch h
    refine h G1 _ Φ1 _ (I1.grow ex) ((s1.trans gr).wider fun i hi => (List.mem_append.mp hi).elim id id) ⟨F, ?_, o1⟩
    have r2 := r1.step I1 gr
    have hz : ds.length ≤ sizeLine := by
      have : (1000 : Nat) ≤ sizeLine := by decide
      omega
    cases m with
    | im => obtain ⟨rfl, q⟩ := r2; exact ⟨rfl, .tup upd_same q hz⟩
    | sh => obtain ⟨rfl, q⟩ := r2; exact ⟨rfl, .tup upd_same q hz⟩
    | ow => exact ⟨.tup upd_same r2.1 hz, r2.2⟩
    | os => exact absurd rfl hm
    | rd _ => exact r2.elim
/-- a list that has just come is frozen -/
theorem frozen {α : Type} {Q : α → Hp → Prop} (I : SI K ks G H σ Γ Φ) (ex : ∀ p o, H p = some o → H' p = some o) (hF : ∀ p ∈ F, H p = none ∧ H' p ≠ none) :
    SI K ks (fun p => G p ∨ p ∈ F) H' σ Γ Φ ∧ Step eff G H Φ Γ (fun p => G p ∨ p ∈ F) H' Φ Γ := by
  have I' := I.grow ex
  have t : Tmp G H' Φ F := fun p hp => by
    obtain ⟨h1, h2⟩ := hF p hp
    refine ⟨fun g => I.gl p g h1, fun i hi => ?_, h2⟩
    obtain ⟨xs, q⟩ := I.mut i p hi
    rw [h1] at q
    cases q
  refine ⟨I'.freeze t, fun p g => .inl g, fun p g => ?_, fun p o h _ => ex p o h, fun _ _ => ⟨rfl, rfl⟩, fun i hi p hp => .inl ⟨i, hi, hp⟩, fun p hp => ?_⟩
  · rcases g with g | g
    · exact .inl g
    · exact .inr (.inl (hF p g).1)
  · cases q : H p with
    | none => rfl
    | some o =>
      rw [ex p o q] at hp
      cases hp
theorem fresh_tmp (I : SI K ks G H σ Γ Φ) {p : Addr} {o : HO} (hp : H p = none) : Tmp G (upd H p o) Φ [p] := fun q hq => by
  have e := List.mem_singleton.mp hq
  subst e
  refine ⟨fun g => I.gl q g hp, fun i hi => ?_, by rw [upd_same]; exact fun h => nomatch h⟩
  obtain ⟨xs, z⟩ := I.mut i q hi
  rw [hp] at z
  cases z
theorem snd_lst (hl : irs.length ≤ 1000) (hm : (m = .sh ∧ m' = .sh) ∨ (m = .ow ∧ m' = .ow) ∨ (m = .os ∧ m' = .os)) (h : SndD X φ ks cl E es irs m eff) : SndE X φ ks cl E (.List es pos) (.lst irs) m' eff := by
  obtain ⟨t, p, q⟩ := h
  refine ⟨_, pe_lst p, fun G H σ Γ Φ Q I h => ?_⟩
  simp only [evE] at h
  refine q G H σ Γ Φ _ I ?_
  cases hev : evEs φ irs Γ with
  | bad =>
    rw [hev] at h
    exact h.elim
  | exc c Γ1 =>
    rw [hev] at h
    exact h
  | ok ds Γ1 =>
    rw [hev] at h
    simp only [bind_ok] at h
    intro G1 H1 Φ1 vs I1 s1 r1
    obtain ⟨F, r1, o1⟩ := r1
    have hlen := evEs_len hev
    have hvs := r1.len
    have hz : (1000 : Nat) ≤ sizeLine := by decide
    refine ⟨by omega, fun p hp => ?_⟩
    have ex := upd_ex (o := HO.lst vs) hp
    have gr : Step eff G1 H1 Φ1 Γ1 G1 (upd H1 p (.lst vs)) Φ1 Γ1 := (Step.grow ex).wider fun _ h => nomatch h
    have r2 := r1.step I1 gr
    have h0 : H p = none := s1.ex p hp
    rcases hm with ⟨rfl, rfl⟩ | ⟨rfl, rfl⟩ | ⟨rfl, rfl⟩
    · obtain ⟨rfl, q⟩ := r2
      obtain ⟨I2, s2⟩ := frozen (F := [p]) (Q := Q) (eff := eff) I1 ex (fun x hx => by
        rw [List.mem_singleton.mp hx]
        exact ⟨hp, by rw [upd_same]; exact fun h => nomatch h⟩)
      exact h _ _ Φ1 _ I2 ((s1.trans s2).wider fun i hi => (List.mem_append.mp hi).elim id id) ⟨[], ⟨rfl, .frz (.inr List.mem_cons_self) upd_same (q.mono fun _ h => .inl h) (by omega)⟩, fun h => nomatch h⟩
    · refine h G1 _ Φ1 _ (I1.grow ex) ((s1.trans gr).wider fun i hi => (List.mem_append.mp hi).elim id id) ⟨p :: F, ⟨.lst upd_same r2.1 (fun hm => (r1.2 p hm).2.2 hp) (by omega), fun x hx => ?_⟩, fun _ x hx => ?_⟩
      · rcases List.mem_cons.mp hx with rfl | hx
        · exact fresh_tmp I1 hp x List.mem_cons_self
        · exact r2.2 x hx
      · rcases List.mem_cons.mp hx with rfl | hx
        · exact .inl h0
        · exact o1 rfl x hx
    · refine h G1 _ Φ1 _ (I1.grow ex) ((s1.trans gr).wider fun i hi => (List.mem_append.mp hi).elim id id) ⟨p :: F, ⟨.lst upd_same r2.1 (fun hm => (r1.2 p hm).2.2 hp) (by omega), ?_⟩, fun _ x hx => ?_⟩
      · refine ⟨fun x hx => ?_, fun h => nomatch h⟩
        rcases List.mem_cons.mp hx with rfl | hx
        · exact fresh_tmp I1 hp x List.mem_cons_self
        · exact r2.2 x hx
      · rcases List.mem_cons.mp hx with rfl | hx
        · exact .inl h0
        · exact o1 rfl x hx

/-! ### new lists of items that stand already -/
def Els (K : PySem.W.Frag) (G : Addr → Prop) (H : Hp) (B : Bool) (vs : List V) (ds : List D) : Prop := vs.length = ds.length ∧ ∀ (i : Nat) (v : V) (d : D), vs[i]? = some v → ds[i]? = some d → ∃ F, Own K G H F v d ∧ (B = true → F = [])
theorem OwnL.els (h : OwnL K G H F vs ds) {B : Bool} (hB : B = true → F = []) : Els K G H B vs ds := ⟨h.len, fun i v d e1 e2 => by
  obtain ⟨w, F', a, b, c⟩ := h.get e2
  rw [e1] at a
  cases a
  exact ⟨F', b, fun t => List.eq_nil_iff_forall_not_mem.mpr fun p hp => by
    have := c p hp
    rw [hB t] at this
    exact nomatch this⟩⟩
theorem Els.own {ck B : Bool} {d : D} (h : Els K G H B vs ds) (hc : ck = true ∨ B = true) (ho : okL ck ds = some d) : d = .lst ds ∧ OwnL K G H [] vs ds ∧ (ck = true → OwnL K NoG H [] vs ds) := by
  unfold okL at ho
  split at ho
  · rename_i hk
    cases ho
    refine ⟨rfl, OwnL.of0 h.1 fun i v d e1 e2 => ?_, fun t => OwnL.of0 h.1 fun i v d e1 e2 => ?_⟩
    · obtain ⟨F, o, z⟩ := h.2 i v d e1 e2
      by_cases hB : B = true
      · rw [z hB] at o
        exact o
      · rcases hc with rfl | q
        · have : d.imm = true := List.all_eq_true.mp (by simpa using hk) d (List.mem_of_getElem? e2)
          exact (o.immut this).2.mono NoG.le
        · exact absurd q hB
    · obtain ⟨F, o, z⟩ := h.2 i v d e1 e2
      subst t
      have : d.imm = true := List.all_eq_true.mp (by simpa using hk) d (List.mem_of_getElem? e2)
      exact (o.immut this).2
  · cases ho
def mkOk (ck B : Bool) (m : Md) : Bool := match m with
  | .sh => ck || B
  | .os => ck || B
  | .ow => ck
  | _ => false
/-- it is laid -/
theorem mk_fin {Q : VK} {ck B : Bool} {o : Option D} {e0 : List Nat} (I : SI X.K ks G H σ Γ Φ) (hx : ∀ p, H p = none → H0 p = none) (h : DenR X ks cl E eff (RelE X m e0 H0 Φ0) (R.ofo o Γ) G H σ Γ Φ Q) (ho : o = okL ck ds) (hE : Els X.K G H B vs ds) (hm : mkOk ck B m = true) (hl : ds.length ≤ sizeLine) :
    ∀ p, H p = none → Q (.ref p) (upd H p (.lst vs)) := by
  intro p hp
  have hc : ck = true ∨ B = true := by
    cases m <;> simp [mkOk] at hm <;> first | exact hm | exact .inl hm
  cases hod : okL ck ds with
  | none =>
    rw [ho, hod] at h
    exact h.elim
  | some d =>
    obtain ⟨rfl, q1, q2⟩ := hE.own hc hod
    rw [ho, hod] at h
    have ex := upd_ex (o := HO.lst vs) hp
    have fin : Step eff G H Φ Γ G (upd H p (.lst vs)) Φ Γ := (Step.grow ex).wider fun _ h => nomatch h
    cases m with
    | im => cases hm
    | rd _ => cases hm
    | sh =>
      obtain ⟨I2, s2⟩ := frozen (F := [p]) (Q := Q) (eff := eff) I ex (fun x hx => by
        rw [List.mem_singleton.mp hx]
        exact ⟨hp, by rw [upd_same]; exact fun h => nomatch h⟩)
      exact h _ _ Φ _ I2 s2 ⟨[], ⟨rfl, .frz (.inr List.mem_cons_self) upd_same ((q1.ex ex).mono fun _ h => .inl h) hl⟩, fun h => nomatch h⟩
    | ow => exact h G _ Φ _ (I.grow ex) fin ⟨[p], ⟨.lst upd_same ((q2 hm).ex ex) (fun h => nomatch h) hl, fresh_tmp I hp⟩, fun _ x hq => .inl (by rw [List.mem_singleton.mp hq]; exact hx p hp)⟩
    | os => exact h G _ Φ _ (I.grow ex) fin ⟨[p], ⟨.lst upd_same (q1.ex ex) (fun h => nomatch h) hl, fresh_tmp I hp, fun h => nomatch h⟩, fun _ x hq => .inl (by rw [List.mem_singleton.mp hq]; exact hx p hp)⟩
/-- without its own cells -/
def Md.bare : Md → Bool
  | .im => true
  | .sh => true
  | _ => false
theorem Res.bare (r : Res K m G H Φ F v d) : m.bare = true → F = [] := by
  cases m <;> first | exact fun _ => r.1 | exact fun h => nomatch h
theorem Els.append {B : Bool} {ws : List V} {es : List D} (h : Els K G H B vs ds) (h' : Els K G H B ws es) : Els K G H B (vs ++ ws) (ds ++ es) := by
  refine ⟨by rw [List.length_append, List.length_append, h.1, h'.1], fun i v d e1 e2 => ?_⟩
  by_cases hi : i < vs.length
  · rw [List.getElem?_append_left hi] at e1
    rw [List.getElem?_append_left (by rw [← h.1]; exact hi)] at e2
    exact h.2 i v d e1 e2
  · rw [List.getElem?_append_right (by omega)] at e1
    rw [List.getElem?_append_right (by rw [← h.1]; omega), ← h.1] at e2
    exact h'.2 _ v d e1 e2
theorem Els.weak {B B' : Bool} (h : Els K G H B vs ds) (hb : B' = true → B = true) : Els K G H B' vs ds := ⟨h.1, fun i v d e1 e2 => by
  obtain ⟨F, a, b⟩ := h.2 i v d e1 e2
  exact ⟨F, a, fun t => b (hb t)⟩⟩
theorem snd_cat {ck : Bool} (ha : SndE X φ ks cl E a a' ma ea) (hb : SndE X φ ks cl E b b' mb eb) (off : ma.off eb = true) (hm : mkOk ck (ma.bare && mb.bare) m = true) : SndE X φ ks cl E (.BinOp a .Add b pos) (.cat ck a' b') m (ea ++ eb) := by
  obtain ⟨ta, pa, qa⟩ := ha
  obtain ⟨tb, pb, qb⟩ := hb
  refine ⟨_, pe_op op_cat pa pb, fun G H σ Γ Φ Q I h => ?_⟩
  simp only [evE] at h
  refine qa G H σ Γ Φ _ I (h.seq sub_l fun x Γ1 G1 H1 Φ1 v I1 s1 r1 h1 => ?_)
  refine qb G1 H1 σ Γ1 Φ1 _ I1 (h1.seq sub_r fun y Γ2 G2 H2 Φ2 w I2 s2 r2 h2 => ?_)
  obtain ⟨F1, r1, _⟩ := r1
  obtain ⟨F2, r2, _⟩ := r2
  have r1' := r1.step I1 s2 off
  cases x <;> cases y <;> first | exact h2.elim | skip
  rename_i xs ys
  obtain ⟨p, us, F1', rfl, hp, o1, f1, l1⟩ := r1'.own.seq
  obtain ⟨p2, ws, F2', rfl, hp2, o2, f2, l2⟩ := r2.own.seq
  simp only [catD] at h2
  split at h2
  · rename_i hz
    refine ⟨p, p2, us, ws, rfl, rfl, hp, hp2, by rw [o1.len, o2.len]; exact hz, ?_⟩
    have e1 : Els X.K G2 H2 (ma.bare && mb.bare) us xs := o1.els fun t => by
      rw [Bool.and_eq_true] at t
      have := r1'.bare t.1
      subst this
      exact List.eq_nil_iff_forall_not_mem.mpr fun q hq => nomatch f1 q hq
    have e2 : Els X.K G2 H2 (ma.bare && mb.bare) ws ys := o2.els fun t => by
      rw [Bool.and_eq_true] at t
      have := r2.bare t.2
      subst this
      exact List.eq_nil_iff_forall_not_mem.mpr fun q hq => nomatch f2 q hq
    exact mk_fin I2 (fun q hq => s1.ex q (s2.ex q hq)) h2 rfl (e1.append e2) hm (by rw [List.length_append]; exact hz)
  · exact h2.elim
theorem Els.rep {B : Bool} (h : Els K G H B vs ds) : ∀ k : Nat, Els K G H B (List.replicate k vs).flatten (List.replicate k ds).flatten
  | 0 => ⟨rfl, fun i v d e1 _ => by simp at e1⟩
  | k + 1 => by
    rw [List.replicate_succ, List.replicate_succ, List.flatten_cons, List.flatten_cons]
    exact h.append (Els.rep h k)
theorem snd_rep {ck : Bool} (ha : SndE X φ ks cl E a a' ma ea) (hb : SndE X φ ks cl E b b' mb eb) (off : ma.off eb = true) (hm : mkOk ck ma.bare m = true) : SndE X φ ks cl E (.BinOp a .Mult b pos) (.rep ck a' b') m (ea ++ eb) := by
  obtain ⟨ta, pa, qa⟩ := ha
  obtain ⟨tb, pb, qb⟩ := hb
  refine ⟨_, pe_op op_rep pa pb, fun G H σ Γ Φ Q I h => ?_⟩
  simp only [evE] at h
  refine qa G H σ Γ Φ _ I (h.seq sub_l fun x Γ1 G1 H1 Φ1 v I1 s1 r1 h1 => ?_)
  refine qb G1 H1 σ Γ1 Φ1 _ I1 (h1.seq sub_r fun y Γ2 G2 H2 Φ2 w I2 s2 r2 h2 => ?_)
  obtain ⟨F1, r1, _⟩ := r1
  obtain ⟨F2, r2, _⟩ := r2
  have r1' := r1.step I1 s2 off
  cases x <;> cases y <;> first | exact h2.elim | skip
  rename_i xs k
  obtain ⟨p, us, F1', rfl, hp, o1, f1, l1⟩ := r1'.own.seq
  have o2 := r2.own
  cases o2
  simp only [repD] at h2
  split at h2
  · rename_i hz
    rw [repR_eq, repR0, decide_eq_true_eq] at hz
    refine ⟨p, k, us, rfl, rfl, hp, hz.2.2, hz.2.1, by rw [o1.len]; exact hz.1, ?_⟩
    have e1 : Els X.K G2 H2 ma.bare us xs := o1.els fun t => by
      have := r1'.bare t
      subst this
      exact List.eq_nil_iff_forall_not_mem.mpr fun q hq => nomatch f1 q hq
    exact mk_fin I2 (fun q hq => s1.ex q (s2.ex q hq)) h2 rfl (e1.rep _) hm (by rw [List.length_flatten, List.map_replicate, List.sum_replicate_nat, Nat.mul_comm]; exact hz.1)
  · exact h2.elim
end
end CW
/-! Items, slices, built-ins, pop. -/
namespace CW
open PySem L2

section
variable (X : Cx) (φ : FEnv) (ks : List Kd) (cl : Nat → Addr) (E : L2.St → XK)
def SndO (e : Option Expr) (ir : Option CW.E) (eff : List Nat) : Prop :=
  ∃ t, PO X e t ∧ ∀ G H σ Γ Φ (Q : Option Int → Hp → Prop), SI X.K ks G H σ Γ Φ → DenR X ks cl E eff (fun _ _ _ d v => v = d) (evO φ ir Γ) G H σ Γ Φ Q → t σ H Q
end
inductive OwnsA (K : PySem.W.Frag) (G : Addr → Prop) (H : Hp) : List D → List V → Prop
  | nil : OwnsA K G H [] []
  | cons {F d ds v vs} : Own K G H F v d → OwnsA K G H ds vs → OwnsA K G H (d :: ds) (v :: vs)
section
variable {X : Cx} {φ : FEnv} {ks : List Kd} {cl : Nat → Addr} {E : L2.St → XK} {G G1 G2 G' : Addr → Prop} {H H0 H' H1 H2 : Hp} {σ : L2.St} {Γ Γ1 Γ2 : Env} {Φ Φ0 Φ1 Φ2 : Nat → List Addr}
variable {a b c e : Expr} {a' b' c' ir : CW.E} {m m' ma mb mc : Md} {eff eff' ea eb ec : List Nat} {pos : Pos} {es : List Expr} {irs : List CW.E} {F F' : List Addr} {v : V} {d : D} {vs : List V} {ds : List D} {K : PySem.W.Frag} {ms : List Md}

/-! ### items -/
def ItemOf (H : Hp) (v : V) (j : Nat) (u : V) : Prop := ∃ p us, v = .ref p ∧ (H p = some (.lst us) ∨ H p = some (.tup us)) ∧ us[j]? = some u
theorem ItemOf.uniq {j : Nat} {u u' : V} (h : ItemOf H v j u) (h' : ItemOf H v j u') : u' = u := by
  obtain ⟨p, us, rfl, a, e⟩ := h
  obtain ⟨p', us', ep, a', e'⟩ := h'
  cases ep
  have : us' = us := by
    rcases a with a | a <;> rcases a' with a' | a' <;> rw [a] at a' <;> cases a' <;> rfl
  rw [this] at e'
  exact Option.some.inj (e'.symm.trans e)
def D.items : D → Option (List D)
  | .lst ds => some ds
  | .tup ds => some ds
  | _ => none
theorem Own.item (h : Own K G H F v d) (hd : d.items = some ds) {j : Nat} {z : D} (e : ds[j]? = some z) : ∃ u F', ItemOf H v j u ∧ Own K G H F' u z ∧ ∀ p ∈ F', p ∈ F := by
  cases h with
  | non => cases hd
  | bl => cases hd
  | int => cases hd
  | str => cases hd
  | scrR _ _ _ => cases hd
  | scrK _ _ => cases hd
  | dfz _ _ _ _ _ => cases hd
  | dct _ _ _ _ _ => cases hd
  | exn _ _ => cases hd
  | tup hp t z =>
    cases hd
    obtain ⟨u, F', a, b, c⟩ := OwnL.get t e
    exact ⟨u, F', ⟨_, _, rfl, .inr hp, a⟩, b, c⟩
  | frz g hp t z =>
    cases hd
    obtain ⟨u, F', a, b, c⟩ := OwnL.get t e
    exact ⟨u, F', ⟨_, _, rfl, .inl hp, a⟩, b, c⟩
  | lst hp t n z =>
    cases hd
    obtain ⟨u, F', a, b, c⟩ := OwnL.get t e
    exact ⟨u, F', ⟨_, _, rfl, .inl hp, a⟩, b, fun p hq => List.mem_cons_of_mem _ (c p hq)⟩
theorem Res.item (hm : m.tmp = false) (R : Res K m G H Φ F v d) (hd : d.items = some ds) {j : Nat} {z : D} (e : ds[j]? = some z) : ∃ u F', ItemOf H v j u ∧ Res K m G H Φ F' u z := by
  have nil : ∀ F' : List Addr, (∀ p ∈ F', p ∈ ([] : List Addr)) → F' = [] := fun F' h => List.eq_nil_iff_forall_not_mem.mpr fun q hq => nomatch h q hq
  cases m with
  | im =>
    obtain ⟨rfl, o⟩ := R
    obtain ⟨u, F', i, o', s⟩ := o.item hd e
    rw [nil F' s] at o'
    exact ⟨u, [], i, rfl, o'⟩
  | sh =>
    obtain ⟨rfl, o⟩ := R
    obtain ⟨u, F', i, o', s⟩ := o.item hd e
    rw [nil F' s] at o'
    exact ⟨u, [], i, rfl, o'⟩
  | ow => cases hm
  | os => cases hm
  | rd q =>
    obtain ⟨u, F', i, o', s⟩ := R.1.item hd e
    exact ⟨u, F', i, o', fun p hp => R.2 p (s p hp)⟩
theorem Res.scal (hm : m.tmp = false) {r : Nat} (h : Own K NoG H [] v d) : ∃ F', Res K m G H Φ F' v d := by
  cases m with
  | im => exact ⟨[], rfl, h⟩
  | sh => exact ⟨[], rfl, h.mono NoG.le⟩
  | ow => cases hm
  | os => cases hm
  | rd q => exact ⟨[], h.mono NoG.le, fun p hp => nomatch hp⟩
theorem atI_some {α : Type} {xs : List α} {i : Int} {x : α} (h : atI xs i = some x) : ∃ j, ixN xs.length i = some j ∧ xs[j]? = some x := by
  unfold atI at h
  cases e : ixN xs.length i with
  | none =>
    rw [e] at h
    cases h
  | some j =>
    rw [e] at h
    exact ⟨j, rfl, h⟩
theorem atI_of {α : Type} {xs : List α} {i : Int} {x : α} {j : Nat} (h1 : ixN xs.length i = some j) (h2 : xs[j]? = some x) : atI xs i = some x := by
  unfold atI
  rw [h1]
  exact h2
theorem snd_ix (hp : plainIx b = true) (ht : ma.tmp = false) (ha : SndE X φ ks cl E a a' ma ea) (hb : SndE X φ ks cl E b b' mb eb) (off : ma.off eb = true) : SndE X φ ks cl E (.Subscript a b pos) (.ix a' b') ma (ea ++ eb) := by
  obtain ⟨ta, pa, qa⟩ := ha
  obtain ⟨tb, pb, qb⟩ := hb
  refine ⟨_, pe_ix ix_seq pa pb (plainIx_ok hp), fun G H σ Γ Φ Q I h => ?_⟩
  simp only [evE] at h
  refine qa G H σ Γ Φ _ I (h.seq sub_l fun x Γ1 G1 H1 Φ1 v I1 s1 r1 h1 => ?_)
  refine qb G1 H1 σ Γ1 Φ1 _ I1 (h1.seq sub_r fun y Γ2 G2 H2 Φ2 w I2 s2 r2 h2 => ?_)
  obtain ⟨F1, r1, _⟩ := r1
  obtain ⟨F2, r2, _⟩ := r2
  have r1' := r1.step I1 s2 off
  obtain ⟨z, ez, k⟩ := h2.fin (α := Unit) I2
  have o2 := r2.own
  have noOrg : ∀ F, Org ma (ea ++ eb) H Φ F := fun F t => by
    rw [ht] at t
    cases t
  cases y <;> first | (cases x <;> simp only [atD] at ez <;> cases ez; done) | skip
  rename_i i
  cases o2
  cases x <;> simp only [atD] at ez <;> try cases ez
  · -- a text
    split at ez
    · rename_i s hs
      cases e1 : atI s.cps.toList i with
      | none =>
        rw [e1] at ez
        cases ez
      | some c =>
        rw [e1] at ez
        cases ez
        have o1 := r1'.own
        cases o1
        obtain ⟨F', q⟩ := Res.scal (G := G2) (Φ := Φ2) (r := 0) ht (Own.str (K := X.K) (H := H2) (G := NoG) (s := ⟨#[c]⟩))
        exact .inr (.inr ⟨s, i, c, rfl, rfl, hs, e1, k H2 _ (fun _ _ h => h) ⟨F', q, noOrg F'⟩⟩)
    · cases ez
  · -- a tuple
    rename_i xs
    obtain ⟨j, e1, e2⟩ := atI_some ez
    obtain ⟨p, us, rfl, sq, o1, _⟩ := r1'.own.tups
    obtain ⟨u, F', it, q⟩ := r1'.item ht rfl e2
    have e3 : us[j]? = some u := by
      obtain ⟨p', us', ep, hh, e3⟩ := it
      cases ep
      rcases hh with hh | hh <;> rw [sq] at hh <;> cases hh
      exact e3
    exact .inr (.inl ⟨p, us, i, u, rfl, rfl, SqT.of sq, atI_of (by rw [o1.len]; exact e1) e3, k H2 _ (fun _ _ h => h) ⟨F', q, noOrg F'⟩⟩)
  · -- a list
    rename_i xs
    obtain ⟨j, e1, e2⟩ := atI_some ez
    obtain ⟨p, us, F0, rfl, sq, o1, _, _⟩ := r1'.own.seq
    obtain ⟨u, F', it, q⟩ := r1'.item ht rfl e2
    have e3 : us[j]? = some u := by
      obtain ⟨p', us', ep, hh, e3⟩ := it
      cases ep
      rcases hh with hh | hh <;> rw [sq] at hh <;> cases hh
      exact e3
    exact .inl ⟨p, us, i, u, rfl, rfl, SqL.of sq, atI_of (by rw [o1.len]; exact e1) e3, k H2 _ (fun _ _ h => h) ⟨F', q, noOrg F'⟩⟩
  · -- the script
    rename_i ns
    cases e1 : atI ns i with
    | none =>
      rw [e1] at ez
      cases ez
    | some n =>
      rw [e1] at ez
      cases ez
      obtain ⟨p, rfl, sq, _⟩ := r1'.own.script
      obtain ⟨j, e2, e3⟩ := atI_some e1
      obtain ⟨F', q⟩ := Res.scal (G := G2) (Φ := Φ2) (r := 0) ht (Own.int (K := X.K) (H := H2) (G := NoG) (i := n))
      exact .inl ⟨p, _, i, .int n, rfl, rfl, sq, atI_of (by rw [List.length_map]; exact e2) (by rw [List.getElem?_map, e3]; rfl), k H2 _ (fun _ _ h => h) ⟨F', q, noOrg F'⟩⟩

/-! ### slices -/
theorem so_none : SndO X φ ks cl E none none [] := ⟨_, po_none, fun G H σ Γ Φ Q I h => by
  simp only [evO] at h
  exact h.here I rfl⟩
theorem so_some (ha : SndE X φ ks cl E a a' ma ea) : SndO X φ ks cl E (some a) (some a') ea := by
  obtain ⟨t, p, q⟩ := ha
  refine ⟨_, po_some p, fun G H σ Γ Φ Q I h => ?_⟩
  simp only [evO] at h
  refine q G H σ Γ Φ _ I (h.seq sub_all fun d Γ1 G1 H1 Φ1 v I1 s1 r1 h1 => ?_)
  obtain ⟨F, r1, _⟩ := r1
  have o := r1.own
  cases d with
  | int k =>
    cases o
    exact ⟨k, rfl, DenR.here h1 I1 rfl⟩
  | _ => exact h1.elim
theorem Els.cut {B : Bool} (h : Els K G H B vs ds) (lo hi : Option Int) : Els K G H B (cutV vs lo hi) (cutD ds lo hi) := by
  have hl := h.1
  unfold cutV cutD
  rw [hl]
  refine ⟨by simp [hl], fun i v d e1 e2 => ?_⟩
  rw [List.getElem?_take] at e1 e2
  split at e1
  · rename_i hi'
    rw [if_pos hi'] at e2
    rw [List.getElem?_drop] at e1 e2
    exact h.2 _ v d e1 e2
  · cases e1
theorem cutD_len (ds : List D) (lo hi : Option Int) : (cutD ds lo hi).length ≤ ds.length := by
  unfold cutD
  rw [List.length_take, List.length_drop]
  omega
theorem els_ints {ns : List Int} : Els K G H true (ns.map V.int) (ns.map D.int) := ⟨by simp, fun i v d e1 e2 => by
  rw [List.getElem?_map] at e1 e2
  cases e : ns[i]? with
  | none =>
    rw [e] at e1
    cases e1
  | some n =>
    rw [e] at e1 e2
    cases e1
    cases e2
    exact ⟨[], .int, fun _ => rfl⟩⟩
theorem nil_of {F F' : List Addr} (h : ∀ p ∈ F', p ∈ F) (e : F = []) : F' = [] := by
  subst e
  exact List.eq_nil_iff_forall_not_mem.mpr fun q hq => nomatch h q hq
theorem okL_ints {ck : Bool} {ns : List Int} : okL ck (ns.map D.int) = some (.lst (ns.map .int)) := by
  unfold okL
  rw [if_pos]
  simp
theorem cut_map {α β : Type} (f : α → β) (xs : List α) (lo hi : Option Int) : True := trivial
theorem cutD_ints (ns : List Int) (lo hi : Option Int) : ∃ ms : List Int, cutD (ns.map .int) lo hi = ms.map .int ∧ cutV (ns.map V.int) lo hi = ms.map V.int := by
  refine ⟨(ns.drop (HT.sIx ns.length 0 lo)).take (HT.sIx ns.length ns.length hi - HT.sIx ns.length 0 lo), ?_, ?_⟩
  · unfold cutD
    rw [List.length_map, List.map_take, List.map_drop]
  · unfold cutV
    rw [List.length_map, List.map_take, List.map_drop]
theorem snd_sl {ck : Bool} {lo hi : Option Expr} {lo' hi' : Option CW.E} {p2 : Pos} (ha : SndE X φ ks cl E a a' ma ea) (hl : SndO X φ ks cl E lo lo' eb) (hh : SndO X φ ks cl E hi hi' ec) (off : ma.off (eb ++ ec) = true) (hm : mkOk ck ma.bare m = true) :
    SndE X φ ks cl E (.Subscript a (.Slice lo hi none p2) pos) (.sl ck a' lo' hi') m (ea ++ (eb ++ ec)) := by
  obtain ⟨ta, pa, qa⟩ := ha
  obtain ⟨tl, pl, ql⟩ := hl
  obtain ⟨th, ph, qh⟩ := hh
  refine ⟨_, pe_slice sl_list pa pl ph, fun G H σ Γ Φ Q I h => ?_⟩
  simp only [evE] at h
  refine qa G H σ Γ Φ _ I (h.seq sub_l fun x Γ1 G1 H1 Φ1 v I1 s1 r1 h1 => ?_)
  refine ql G1 H1 σ Γ1 Φ1 _ I1 (h1.seq (fun i h => sub_r i (sub_l i h)) fun l Γ2 G2 H2 Φ2 l2 I2 s2 r2 h2 => ?_)
  obtain rfl : l2 = l := r2
  refine qh G2 H2 σ Γ2 Φ2 _ I2 (h2.seq (fun i h => sub_r i (sub_r i h)) fun u Γ3 G3 H3 Φ3 u2 I3 s3 r3 h3 => ?_)
  obtain rfl : u2 = u := r3
  obtain ⟨F1, r1, _⟩ := r1
  have r1' := r1.step I1 (s2.trans s3) off
  cases x <;> first | exact h3.elim | skip
  · rename_i xs
    obtain ⟨p, us, F', rfl, hp, o1, f1, l1⟩ := r1'.own.seq
    have e1 : Els X.K G3 H3 ma.bare us xs := o1.els fun t => nil_of f1 (r1'.bare t)
    exact ⟨p, us, rfl, SqL.of hp, mk_fin I3 (fun q hq => s1.ex q (s2.ex q (s3.ex q hq))) h3 rfl (e1.cut _ _) hm (Nat.le_trans (cutD_len _ _ _) l1)⟩
  · rename_i ns
    obtain ⟨p, rfl, hp, hz⟩ := r1'.own.script
    exact ⟨p, _, rfl, hp, mk_fin I3 (fun q hq => s1.ex q (s2.ex q (s3.ex q hq))) h3 rfl ((els_ints.weak (B' := ma.bare) fun _ => rfl).cut _ _) hm (Nat.le_trans (cutD_len _ _ _) (by rw [List.length_map]; exact hz))⟩
theorem snd_sls {lo hi : Option Expr} {lo' hi' : Option CW.E} {p2 : Pos} (ha : SndE X φ ks cl E a a' ma ea) (hl : SndO X φ ks cl E lo lo' eb) (hh : SndO X φ ks cl E hi hi' ec) :
    SndE X φ ks cl E (.Subscript a (.Slice lo hi none p2) pos) (.sls a' lo' hi') .im (ea ++ (eb ++ ec)) := by
  obtain ⟨ta, pa, qa⟩ := ha
  obtain ⟨tl, pl, ql⟩ := hl
  obtain ⟨th, ph, qh⟩ := hh
  refine ⟨_, pe_slice sl_str pa pl ph, fun G H σ Γ Φ Q I h => ?_⟩
  simp only [evE] at h
  refine qa G H σ Γ Φ _ I (h.seq sub_l fun x Γ1 G1 H1 Φ1 v I1 s1 r1 h1 => ?_)
  refine ql G1 H1 σ Γ1 Φ1 _ I1 (h1.seq (fun i h => sub_r i (sub_l i h)) fun l Γ2 G2 H2 Φ2 l2 I2 s2 r2 h2 => ?_)
  obtain rfl : l2 = l := r2
  refine qh G2 H2 σ Γ2 Φ2 _ I2 (h2.seq (fun i h => sub_r i (sub_r i h)) fun u Γ3 G3 H3 Φ3 u2 I3 s3 r3 h3 => ?_)
  obtain rfl : u2 = u := r3
  obtain ⟨F1, r1, _⟩ := r1
  have o := r1.own
  cases x <;> first | exact h3.elim | skip
  rename_i s
  cases o
  simp only at h3
  split at h3
  · rename_i hs
    exact ⟨s, rfl, hs, DenR.here h3 I3 (rel_im .str)⟩
  · exact h3.elim
theorem Els.rev {B : Bool} (h : Els K G H B vs ds) : Els K G H B vs.reverse ds.reverse := by
  have hl := h.1
  refine ⟨by rw [List.length_reverse, List.length_reverse, hl], fun i v d e1 e2 => ?_⟩
  have h1 : i < vs.reverse.length := (List.getElem?_eq_some_iff.mp e1).1
  rw [List.length_reverse] at h1
  rw [List.getElem?_reverse (by omega)] at e1 e2
  rw [hl] at e1
  exact h.2 _ v d e1 e2
theorem snd_rev {ck : Bool} {k : Nat} {p1 p2 p3 : Pos} (ha : SndE X φ ks cl E a a' ma ea) (hm : mkOk ck ma.bare m = true) :
    SndE X φ ks cl E (.Subscript a (.Slice none none (some (.UnaryOp .USub (.Constant (.int 1) k p1) p2)) p3) pos) (.rev ck a') m ea := by
  obtain ⟨ta, pa, qa⟩ := ha
  refine ⟨_, pe_revL pa, fun G H σ Γ Φ Q I h => ?_⟩
  simp only [evE] at h
  refine qa G H σ Γ Φ _ I (h.seq sub_all fun x Γ1 G1 H1 Φ1 v I1 s1 r1 h1 => ?_)
  obtain ⟨F1, r1, _⟩ := r1
  cases x <;> first | exact h1.elim | skip
  rename_i xs
  obtain ⟨p, us, F', rfl, hp, o1, f1, l1⟩ := r1.own.seq
  have e1 : Els X.K G1 H1 ma.bare us xs := o1.els fun t => nil_of f1 (r1.bare t)
  exact ⟨p, us, rfl, SqL.of hp, mk_fin I1 (fun q hq => s1.ex q hq) h1 rfl e1.rev hm (by rw [List.length_reverse]; exact l1)⟩
/-- list(x) -/
theorem snd_list {ck : Bool} {p : Pos} (hg : Gl X "list") (hn : X.mg "list" = none) (hs : noStar a = true) (ha : SndE X φ ks cl E a a' ma ea) (hm : mkOk ck ma.bare m = true) :
    SndE X φ ks cl E (.Call (.Name "list" p) [a] [] pos) (.mk .list ck a') m ea := by
  obtain ⟨ta, pa, qa⟩ := ha
  refine ⟨_, pe_callTy call_list_of hg hn (by decide +kernel) (pa_cons pa pa_nil (noStar_ok hs _)) (he := noStar_ok hs _), fun G H σ Γ Φ Q I h => ?_⟩
  simp only [evE] at h
  refine qa G H σ Γ Φ _ I (h.seq sub_all fun x Γ1 G1 H1 Φ1 v I1 s1 r1 h1 => ?_)
  obtain ⟨F1, r1, _⟩ := r1
  cases x <;> first | exact h1.elim | skip
  · rename_i xs
    obtain ⟨p, us, rfl, hp, o1, l1⟩ := r1.own.tups
    have e1 : Els X.K G1 H1 ma.bare us xs := o1.els fun t => r1.bare t
    exact ⟨p, us, rfl, .inr (SqT.of hp), mk_fin I1 (fun q hq => s1.ex q hq) h1 rfl e1 hm l1⟩
  · rename_i xs
    obtain ⟨p, us, F', rfl, hp, o1, f1, l1⟩ := r1.own.seq
    have e1 : Els X.K G1 H1 ma.bare us xs := o1.els fun t => nil_of f1 (r1.bare t)
    exact ⟨p, us, rfl, .inl (SqL.of hp), mk_fin I1 (fun q hq => s1.ex q hq) h1 rfl e1 hm l1⟩
end
end CW
/-! Built-ins, pop. -/
namespace CW
open PySem L2

def Bi.name : Bi → Str
  | .len => "len"
  | .abs => "abs"
  | .min2 => "min"
  | .max2 => "max"
  | .sum => "sum"
  | .int1 => "int"
  | .str1 => "str"
  | _ => "isinstance"
/-- the class that isinstance asks about -/
def Bi.ty : Bi → Option String
  | .isInt => some "int"
  | .isBool => some "bool"
  | .isList => some "list"
  | .isTup => some "tuple"
  | .isStr => some "str"
  | _ => none
section
variable {X : Cx} {φ : FEnv} {ks : List Kd} {cl : Nat → Addr} {E : L2.St → XK} {G G1 G2 G' : Addr → Prop} {H H0 H' H1 H2 : Hp} {σ : L2.St} {Γ Γ1 Γ2 : Env} {Φ Φ0 Φ1 Φ2 : Nat → List Addr}
variable {a b c e : Expr} {a' b' c' ir : CW.E} {m m' ma mb mc : Md} {eff eff' ea eb ec : List Nat} {pos : Pos} {es : List Expr} {irs : List CW.E} {F F' : List Addr} {v : V} {d : D} {vs : List V} {ds : List D} {K : PySem.W.Frag} {ms : List Md}

theorem ResA.owns : ∀ {ms : List Md} {ds : List D} {vs : List V}, ResA K G H Φ ms ds vs → OwnsA K G H ds vs
  | _, _, _, .nil => .nil
  | _, _, _, .cons r t => .cons r.own (ResA.owns t)
theorem ResA.step (I : SI K ks G H σ Γ Φ) (s : Step eff G H Φ Γ G1 H1 Φ1 Γ1) : ∀ {ms : List Md} {ds : List D} {vs : List V}, ResA K G H Φ ms ds vs → (∀ m ∈ ms, m.off eff = true) → ResA K G1 H1 Φ1 ms ds vs
  | _, _, _, .nil, _ => .nil
  | _, _, _, .cons r t, h => .cons (r.step I s (h _ List.mem_cons_self)) (ResA.step I s t fun m hm => h m (List.mem_cons_of_mem _ hm))
theorem sa_nil : SndA X φ ks cl E [] [] [] [] := ⟨_, pa_nil, fun G H σ Γ Φ Q I h => by
  simp only [evEs] at h
  exact h.here I .nil⟩
theorem sa_cons (hs : noStar e = true) (he : SndE X φ ks cl E e ir ma ea) (off : ma.off eb = true) (ht : SndA X φ ks cl E es irs ms eb) : SndA X φ ks cl E (e :: es) (ir :: irs) (ma :: ms) (ea ++ eb) := by
  obtain ⟨te, pe, qe⟩ := he
  obtain ⟨ta, pa, qa⟩ := ht
  refine ⟨_, pa_cons pe pa (noStar_ok hs _), fun G H σ Γ Φ Q I h => ?_⟩
  simp only [evEs] at h
  refine qe G H σ Γ Φ _ I (h.seq sub_l fun d Γ1 G1 H1 Φ1 v I1 s1 r1 h1 => ?_)
  refine qa G1 H1 σ Γ1 Φ1 _ I1 (h1.seq sub_r fun ds Γ2 G2 H2 Φ2 vs I2 s2 r2 h2 => ?_)
  obtain ⟨F1, r1, o1⟩ := r1
  exact h2.here I2 (.cons (r1.step I1 s2 off) r2)

/-! ### built-ins that tell a scalar -/
def Bi.plain : Bi → Bool
  | .len => true
  | .abs => true
  | .min2 => true
  | .max2 => true
  | .sum => true
  | .int1 => true
  | .str1 => true
  | _ => false
def Bi.val : Bi → Value
  | .len => .builtin "len"
  | .abs => .builtin "abs"
  | .min2 => .builtin "min"
  | .max2 => .builtin "max"
  | .sum => .builtin "sum"
  | .int1 => .type "int"
  | .str1 => .type "str"
  | _ => .builtin "isinstance"
theorem owns1 (h : OwnsA K G H [d] vs) : ∃ v F, vs = [v] ∧ Own K G H F v d := by
  cases h with
  | cons o t =>
    cases t
    exact ⟨_, _, rfl, o⟩
theorem owns2 {d' : D} (h : OwnsA K G H [d, d'] vs) : ∃ v F w F', vs = [v, w] ∧ Own K G H F v d ∧ Own K G H F' w d' := by
  cases h with
  | cons o t =>
    obtain ⟨w, F', rfl, o'⟩ := owns1 t
    exact ⟨_, _, w, F', rfl, o, o'⟩
theorem bi_ok (hc : X.calm = true) (b : Bi) (hb : b.plain = true) : ∃ r, CallR X b.val r ∧ ∀ ds z, b.sem ds = some z → ∀ (G : Addr → Prop) (H : Hp) (vs : List V) (Q : VK), OwnsA X.K G H ds vs → (∀ u, Own X.K NoG H [] u z → Q u H) → r vs H Q := by
  cases b <;> first | (cases hb; done) | skip
  · refine ⟨_, call_len_seq.or call_len_str, fun ds z hz G H vs Q oo q => ?_⟩
    match ds, hz with
    | [.lst ds], hz =>
      cases hz
      obtain ⟨v, F, rfl, o⟩ := owns1 oo
      obtain ⟨p, us, F', rfl, hp, o1, _, _⟩ := o.seq
      rw [← o1.len] at q
      exact .inl ⟨p, us, rfl, .inl (SqL.of hp), q _ .int⟩
    | [.tup ds], hz =>
      cases hz
      obtain ⟨v, F, rfl, o⟩ := owns1 oo
      obtain ⟨p, us, rfl, hp, o1, _⟩ := o.tups
      rw [← o1.len] at q
      exact .inl ⟨p, us, rfl, .inr (SqT.of hp), q _ .int⟩
    | [.scr ns], hz =>
      cases hz
      obtain ⟨v, F, rfl, o⟩ := owns1 oo
      obtain ⟨p, rfl, hp, _⟩ := o.script
      refine .inl ⟨p, _, rfl, .inl hp, ?_⟩
      rw [List.length_map]
      exact q _ .int
    | [.str s], hz =>
      simp only [Bi.sem] at hz
      split at hz
      · rename_i hs
        cases hz
        obtain ⟨v, F, rfl, o⟩ := owns1 oo
        cases o
        exact .inr ⟨s, rfl, hs, q _ .int⟩
      · cases hz
  · refine ⟨_, call_abs, fun ds z hz G H vs Q oo q => ?_⟩
    match ds, hz with
    | [.int i], hz =>
      cases hz
      obtain ⟨v, F, rfl, o⟩ := owns1 oo
      cases o
      exact ⟨i, rfl, q _ .int⟩
  · refine ⟨_, call_min2 hc, fun ds z hz G H vs Q oo q => ?_⟩
    match ds, hz with
    | [.int i, .int j], hz =>
      cases hz
      obtain ⟨v, F, w, F', rfl, o, o'⟩ := owns2 oo
      cases o
      cases o'
      exact ⟨i, j, rfl, q _ .int⟩
  · refine ⟨_, call_max2 hc, fun ds z hz G H vs Q oo q => ?_⟩
    match ds, hz with
    | [.int i, .int j], hz =>
      cases hz
      obtain ⟨v, F, w, F', rfl, o, o'⟩ := owns2 oo
      cases o
      cases o'
      exact ⟨i, j, rfl, q _ .int⟩
  · refine ⟨_, cr_sum hc, fun ds z hz G H vs Q oo q => ?_⟩
    match ds, hz with
    | [.lst ds], hz =>
      simp only [Bi.sem] at hz
      cases e : intsOf ds with
      | none =>
        rw [e] at hz
        cases hz
      | some ns =>
        rw [e] at hz
        cases hz
        obtain ⟨v, F, rfl, o⟩ := owns1 oo
        obtain ⟨p, us, F', rfl, hp, o1, _, _⟩ := o.seq
        rw [o1.ints e] at hp
        exact ⟨p, ns, rfl, SqL.of hp, q _ .int⟩
  · refine ⟨_, call_int1, fun ds z hz G H vs Q oo q => ?_⟩
    match ds, hz with
    | [.int i], hz =>
      cases hz
      obtain ⟨v, F, rfl, o⟩ := owns1 oo
      cases o
      exact .inl ⟨i, rfl, q _ .int⟩
    | [.bl k], hz =>
      cases hz
      obtain ⟨v, F, rfl, o⟩ := owns1 oo
      cases o
      exact .inr ⟨k, rfl, q _ .int⟩
  · refine ⟨_, call_str_int, fun ds z hz G H vs Q oo q => ?_⟩
    match ds, hz with
    | [.int i], hz =>
      simp only [Bi.sem] at hz
      split at hz
      · rename_i hs
        cases hz
        obtain ⟨v, F, rfl, o⟩ := owns1 oo
        cases o
        exact ⟨i, rfl, hs, q _ .str⟩
      · cases hz
theorem pe_bi {r : List V → Hp → VK → Prop} {t : TA} {p : Pos} (b : Bi) (hb : b.plain = true) (hc : CallR X b.val r) (hg : Gl X b.name) (hn : X.mg b.name = none) (ha : PA X (e :: es) t) (hs : noStar e = true) (hss : es.all noStar = true) :
    PE X (.Call (.Name b.name p) (e :: es) [] pos) (tCB r t) := by
  cases b <;> first
    | (cases hb; done)
    | exact pe_callB hc hg hn (by decide +kernel) ha (by decide) (by decide) (noStar_ok hs _) (noStars_ok hss _ _)
    | exact pe_callTy hc hg hn (by decide +kernel) ha (by decide) (by decide) (noStar_ok hs _) (noStars_ok hss _ _)
theorem snd_bi {p : Pos} (hc : X.calm = true) (b : Bi) (hb : b.plain = true) (hg : Gl X b.name) (hn : X.mg b.name = none) (hs : noStar e = true) (hss : es.all noStar = true) (ha : SndA X φ ks cl E (e :: es) irs ms eff) :
    SndE X φ ks cl E (.Call (.Name b.name p) (e :: es) [] pos) (.bi b irs) .im eff := by
  obtain ⟨r, hr, q⟩ := bi_ok hc b hb
  obtain ⟨t, pa, qa⟩ := ha
  refine ⟨_, pe_bi b hb hr hg hn pa hs hss, fun G H σ Γ Φ Q I h => ?_⟩
  simp only [evE] at h
  refine qa G H σ Γ Φ _ I (h.seq sub_all fun ds Γ1 G1 H1 Φ1 vs I1 s1 r1 h1 => ?_)
  obtain ⟨z, ez, k⟩ := h1.fin (α := Unit) I1
  exact q ds z ez G1 H1 vs Q r1.owns fun u ou => k H1 u (fun _ _ h => h) (rel_im ou)
/-! ### isinstance of a built-in type -/
def tyName : D → String
  | .non => "NoneType"
  | .bl _ => "bool"
  | .int _ => "int"
  | .str _ => "str"
  | .tup _ => "tuple"
  | .lst _ => "list"
  | .scr _ => "list"
  | .dct _ _ => "dict"
  | .exn _ => "dict"
theorem Own.tyx (o : Own K G H F v d) (hh : (∀ ns, d ≠ .scr ns) ∧ ∀ c, d ≠ .exn c) : TyX K H v (.type (tyName d)) := by
  cases o with
  | non => exact .base .non
  | bl => exact .base (.bl _)
  | int => exact .base (.int _)
  | str => exact .base (.str _)
  | tup h _ _ => exact .base (.tup h)
  | scrR _ _ _ => exact absurd rfl (hh.1 _)
  | scrK _ _ => exact absurd rfl (hh.1 _)
  | dfz _ h _ _ _ => exact .base (.dT h)
  | dct h _ _ _ _ => exact .base (.dT h)
  | exn _ _ => exact absurd rfl (hh.2 _)
  | frz _ h _ _ => exact .base (.lst h)
  | lst h _ _ _ => exact .base (.lst h)
theorem isTy_kit {b : Bi} {T : String} (hT : b.ty = some T) {d : D} {k : Bool} (h : isTy b d = some k) : PySem.W.kitOne K (.type (tyName d)) (.type T) = some k ∧ (∀ ns, d ≠ .scr ns) ∧ ∀ c, d ≠ .exn c := by
  have cmp : ∀ (x y : String) (r : Bool), kitB x y = some r → PySem.W.kitOne K (.type x) (.type y) = some r := fun x y r h => kit_ty h
  cases b <;> first | (cases hT; done) | skip
  all_goals
    cases hT
    cases d <;> first | (cases h; done) | skip
    all_goals
      cases h
      exact ⟨cmp _ _ _ (by simp only [tyName]; decide +kernel), fun ns q => (nomatch q), fun c q => nomatch q⟩
theorem boot_ty {b : Bi} {T : String} (hT : b.ty = some T) : bootBuiltins T = some (.type T) ∧ (T : Str) ≠ "__name__" ∧ ((T : Str) == ("__debug__" : Str)) = false := by
  cases b <;> first | (cases hT; done) | (cases hT; exact ⟨by decide +kernel, by decide, by decide⟩)
theorem snd_isi {T : String} {p p2 : Pos} (b : Bi) (hT : b.ty = some T) (hg : Gl X "isinstance") (hn : X.mg "isinstance" = none) (hg2 : Gl X T) (hn2 : X.mg T = none) (hs : noStar a = true) (ha : SndE X φ ks cl E a a' ma ea) :
    SndE X φ ks cl E (.Call (.Name "isinstance" p) [a, .Name T p2] [] pos) (.bi b [a']) .im ea := by
  obtain ⟨t, pa, qa⟩ := ha
  obtain ⟨b1, b2, b3⟩ := boot_ty hT
  have pt : PE X (.Name T p2) (tC (.ty T)) := pe_bltn hg2 hn2 b1 rfl b2 b3
  refine ⟨_, pe_callB call_isi hg hn (by decide +kernel) (pa_cons pa (pa_cons pt pa_nil) (noStar_ok hs _)) (he := noStar_ok hs _), fun G H σ Γ Φ Q I h => ?_⟩
  simp only [evE, evEs] at h
  refine qa G H σ Γ Φ _ I (DenR.seq (k := fun d Γ => R.ofo (b.sem [d]) Γ) (e := ea) (rel := RelE X .im ea H Φ) (by
    cases he : evE φ a' Γ <;> rw [he] at h <;> exact h) sub_all fun d Γ1 G1 H1 Φ1 v I1 s1 r1 h1 => ?_)
  obtain ⟨F, r1, _⟩ := r1
  have hb : b.sem [d] = (isTy b d).map .bl := by cases b <;> first | (cases hT; done) | rfl
  rw [hb] at h1
  cases hk : isTy b d with
  | none =>
    rw [hk] at h1
    exact h1.elim
  | some k =>
    rw [hk] at h1
    obtain ⟨k1, k2⟩ := isTy_kit (K := X.K) hT hk
    exact ⟨v, .ty T, .type (tyName d), .type T, k, rfl, .ty T, r1.own.tyx k2, k1, DenR.here h1 I1 (rel_im .bl)⟩

/-! ### pop of a list of one's own -/
theorem OwnL.erase : ∀ {F : List Addr} {vs : List V} {ds : List D} {i : Nat} {d : D}, OwnL K G H F vs ds → ds[i]? = some d → ∃ v F1 F2, vs[i]? = some v ∧ Own K G H F1 v d ∧ OwnL K G H F2 (vs.eraseIdx i) (ds.eraseIdx i) ∧ (∀ p ∈ F1, p ∈ F) ∧ (∀ p ∈ F2, p ∈ F) ∧ ∀ p ∈ F1, p ∉ F2
  | _, _, _, _, _, .nil, e => by simp at e
  | _, _, _, 0, d, .cons h t n, e => by
    have e' := Option.some.inj e
    subst e'
    exact ⟨_, _, _, rfl, h, t, fun p hp => List.mem_append_left _ hp, fun p hp => List.mem_append_right _ hp, n⟩
  | _, _, _, i + 1, d, .cons (F := F1) (F' := F2) h t n, e => by
    obtain ⟨v, A, B, h1, h2, h3, h4, h5, h6⟩ := OwnL.erase t (i := i) (d := d) (by simpa using e)
    refine ⟨v, A, F1 ++ B, by simpa using h1, h2, .cons h h3 fun p hp hq => n p hp (h5 p hq), fun p hp => List.mem_append_right _ (h4 p hp), fun p hp => ?_, fun p hp hq => ?_⟩
    · rcases List.mem_append.mp hp with hp | hp
      · exact List.mem_append_left _ hp
      · exact List.mem_append_right _ (h5 p hp)
    · rcases List.mem_append.mp hq with hq | hq
      · exact n p hq (h4 p hp)
      · exact h6 p hp hq
/-- a list of one's own changed: what was in it and what comes -/
theorem SI.chg {i : Nat} {p : Addr} {ws : List V} {es : List D} {F0 F2 : List Addr} (I : SI K ks G H σ Γ Φ) (hv : σ[i]? = some (some (.ref p))) (hΦ : Φ i = p :: F0) (hi : i < σ.length)
    (o : OwnL K ((kd ks i).g G) (upd H p (.lst ws)) F2 ws es) (hn : p ∉ F2) (hz : es.length ≤ sizeLine) (hk : (kd ks i).fr = false) (t : Tmp G (upd H p (.lst ws)) (pu Φ i []) F2) :
    SI K ks G (upd H p (.lst ws)) σ (Γ.set i (some (.lst es))) (pu Φ i (p :: F2)) := by
  have hpi : p ∈ Φ i := by rw [hΦ]; exact List.mem_cons_self
  obtain ⟨xs, hp⟩ := I.mut i p hpi
  have kp : Kp (fun q => q = p) H (upd H p (.lst ws)) := fun q o e n => by
    rw [upd_ne n]
    exact e
  have w : Wl (fun q => q = p) H := fun q e o h => by
    subst e
    rw [hp] at h
    exact ⟨xs, (Option.some.inj h).symm⟩
  have I0 : SI K ks G (upd H p (.lst ws)) σ (Γ.set i none) (pu Φ i []) := by
    have I1 := I.drop i
    refine ⟨I1.len, I1.kl, fun j d hj => ?_, I1.non, I1.sh, I1.os, I1.dis, I1.gd, fun q g h => ?_⟩
    · obtain ⟨v, a, b⟩ := I1.slot j d hj
      refine ⟨v, a, b.keep kp w (fun q g e => ?_) (fun _ h => h) fun q hq e => ?_⟩
      · subst e
        exact I.gd i q hpi (Kd.g_le q g)
      · subst e
        rcases pu_mem hq with ⟨_, h⟩ | ⟨hji, h⟩
        · exact nomatch h
        · exact I.dis j i hji q h hpi
    · by_cases e : q = p
      · subst e
        rw [upd_same] at h
        cases h
      · rw [upd_ne e] at h
        exact I.gl q g h
  have := I0.put (i := i) (F := p :: F2) (v := .ref p) (d := .lst es) hi (.lst upd_same o hn hz) (fun h => by rw [hk] at h; cases h) (fun _ h => nomatch h) (fun q hq => ?_)
  · have e1 : (Γ.set i none).set i (some (D.lst es)) = Γ.set i (some (.lst es)) := by rw [List.set_set]
    have e2 : pu (pu Φ i []) i (p :: F2) = pu Φ i (p :: F2) := by
      funext j
      unfold pu
      split <;> rfl
    have e3 : σ.set i (some (.ref p)) = σ := by
      apply List.ext_getElem?
      intro j
      by_cases h : i = j
      · subst h
        rw [List.getElem?_set_self hi, hv]
      · rw [List.getElem?_set_ne h]
    rw [e1, e2, e3] at this
    exact this
  · have e2 : pu (pu Φ i []) i [] = pu Φ i [] := by
      funext j
      unfold pu
      split <;> rfl
    rw [e2]
    rcases List.mem_cons.mp hq with rfl | hq
    · refine ⟨I.gd i q hpi, fun j hj => ?_, by rw [upd_same]; exact fun h => nomatch h⟩
      rcases pu_mem hj with ⟨_, h⟩ | ⟨hji, h⟩
      · exact nomatch h
      · exact I.dis j i hji q h hpi
    · exact t q hq
theorem Step.chg {i : Nat} {p : Addr} {ws : List V} {es : List D} {F2 : List Addr} (I : SI K ks G H σ Γ Φ) (hpi : p ∈ Φ i) (hF : ∀ q ∈ F2, q ∈ Φ i ∨ H q = none) : Step [i] G H Φ Γ G (upd H p (.lst ws)) (pu Φ i (p :: F2)) (Γ.set i (some (.lst es))) := by
  refine ⟨fun _ h => h, fun _ h => .inl h, fun q o h n => ?_, fun j hj => ?_, fun j hj q hq => ?_, fun q h => ?_⟩
  · have : q ≠ p := fun e => by
      subst e
      exact n i (List.mem_singleton.mpr rfl) hpi
    rw [upd_ne this]
    exact h
  · have hji : j ≠ i := fun q => hj (List.mem_singleton.mpr q)
    rw [pu_ne hji, List.getElem?_set_ne hji.symm]
    exact ⟨rfl, rfl⟩
  · rw [List.mem_singleton.mp hj, pu_same] at hq
    rcases List.mem_cons.mp hq with rfl | hq
    · exact .inl ⟨i, List.mem_singleton.mpr rfl, hpi⟩
    · rcases hF q hq with h | h
      · exact .inl ⟨i, List.mem_singleton.mpr rfl, h⟩
      · exact .inr h
  · by_cases e : q = p
    · subst e
      rw [upd_same] at h
      cases h
    · rw [upd_ne e] at h
      exact h
end
end CW
/-! pop, targets, comprehensions. -/
namespace CW
open PySem L2
section
variable {X : Cx} {φ : FEnv} {ks : List Kd} {cl : Nat → Addr} {E : L2.St → XK} {G G1 G2 G' : Addr → Prop} {H H0 H' H1 H2 : Hp} {σ σ1 σ2 : L2.St} {Γ Γ1 Γ2 : Env} {Φ Φ0 Φ1 Φ2 : Nat → List Addr}
variable {a b c e : Expr} {a' b' c' ir : CW.E} {m m' ma mb mc : Md} {eff eff' ea eb ec : List Nat} {pos : Pos} {es : List Expr} {irs : List CW.E} {F F' : List Addr} {v : V} {d : D} {vs : List V} {ds : List D} {K : PySem.W.Frag} {ms : List Md}

/-- a list of one's own that stands at a name -/
theorem SI.own (I : SI K ks G H σ Γ Φ) {i : Nat} (hk : (kd ks i).fr = false) (h : get Γ i = some (.lst ds)) : ∃ p vs F0, σ[i]? = some (some (.ref p)) ∧ Φ i = p :: F0 ∧ i < σ.length ∧ H p = some (.lst vs) ∧ OwnL K ((kd ks i).g G) H F0 vs ds ∧ p ∉ F0 ∧ ds.length ≤ sizeLine := by
  have g := gets h
  obtain ⟨v, e, o⟩ := I.slot i _ g
  have hi : i < σ.length := (List.getElem?_eq_some_iff.mp e).1
  have ho := I.os i _ g
  generalize hΦ : Φ i = F at o
  cases o with
  | frz gg hp t z =>
    cases hkk : kd ks i with
    | im => rw [hkk] at hk; cases hk
    | sh => rw [hkk] at hk; cases hk
    | ow => rw [hkk] at gg; exact gg.elim
    | os => exact absurd hΦ (ho hkk)
  | lst hp t n z => exact ⟨_, _, _, e, rfl, hi, hp, t, n, z⟩
theorem vis_of {x : Str} : True := trivial
theorem own_md {k : Kd} (hk : k.fr = false) : k = .ow ∨ k = .os := by
  cases k <;> first | (cases hk; done) | exact .inl rfl | exact .inr rfl
/-- what comes out of a list of one's own -/
theorem pop_fin {Q : VK} {i : Nat} {z : D} {k : Nat} {e0 : List Nat} (I : SI X.K ks G H σ Γ Φ) (s0 : Step e0 G0 H0 Φ0 Γ0 G H Φ Γ) (hk : kd ks i = .ow) (hg : get Γ i = some (.lst ds)) (hz : ds[k]? = some z)
    (h : DenR X ks cl E (e0 ++ [i]) (RelE X .ow (e0 ++ [i]) H0 Φ0) (.ok z (put Γ i (.lst (ds.eraseIdx k)))) G H σ Γ Φ Q) :
    ∃ p vs y, σ[i]? = some (some (.ref p)) ∧ H p = some (.lst vs) ∧ vs.length = ds.length ∧ vs[k]? = some y ∧ Q y (upd H p (.lst (vs.eraseIdx k))) := by
  have hf : (kd ks i).fr = false := by rw [hk]; rfl
  obtain ⟨p, vs, F0, e1, hΦ, hi, hp, o, n, z0⟩ := I.own hf hg
  obtain ⟨y, A, B, h1, h2, h3, h4, h5, h6⟩ := o.erase hz
  refine ⟨p, vs, y, e1, hp, o.len, h1, ?_⟩
  rw [hk] at o h2 h3
  have hpi : p ∈ Φ i := by rw [hΦ]; exact List.mem_cons_self
  have hA : ∀ q ∈ A, q ∈ Φ i := fun q hq => by rw [hΦ]; exact List.mem_cons_of_mem _ (h4 q hq)
  have hB : ∀ q ∈ B, q ∈ Φ i := fun q hq => by rw [hΦ]; exact List.mem_cons_of_mem _ (h5 q hq)
  have kp : Kp (fun q => q = p) H (upd H p (.lst (vs.eraseIdx k))) := fun q o e n => by
    rw [upd_ne n]
    exact e
  have wl0 : Wl (fun q => q = p) H := fun q e o h => by
    subst e
    rw [hp] at h
    exact ⟨vs, (Option.some.inj h).symm⟩
  have tm : ∀ {C : List Addr}, (∀ q ∈ C, q ∈ Φ i) → Tmp G (upd H p (.lst (vs.eraseIdx k))) (pu Φ i []) C := fun hC q hq => by
    have hqi := hC q hq
    refine ⟨I.gd i q hqi, fun j hj => ?_, fun hn => ?_⟩
    · rcases pu_mem hj with ⟨_, h⟩ | ⟨hji, h⟩
      · exact nomatch h
      · exact I.dis j i hji q h hqi
    · by_cases e : q = p
      · subst e
        rw [upd_same] at hn
        cases hn
      · rw [upd_ne e] at hn
        obtain ⟨xs, hx⟩ := I.mut i q hqi
        rw [hx] at hn
        cases hn
  have h3' : OwnL X.K ((kd ks i).g G) (upd H p (.lst (vs.eraseIdx k))) B (vs.eraseIdx k) (ds.eraseIdx k) := by
    rw [hk]
    exact h3.keep kp wl0 (fun _ h => h.elim) (fun _ h => h) fun q hq e => by
      subst e
      exact n (h5 q hq)
  have I2 := I.chg e1 hΦ hi h3' (fun q => n (h5 p q)) (Nat.le_trans (List.length_eraseIdx_le _ _) z0) hf (tm hB)
  have s2 := Step.chg (Γ := Γ) (ws := vs.eraseIdx k) (es := ds.eraseIdx k) I hpi fun q hq => .inl (hB q hq)
  refine h G (upd H p (.lst (vs.eraseIdx k))) (pu Φ i (p :: B)) y I2 (s2.wider sub_r) ⟨A, ⟨h2.keep kp wl0 (fun _ h => h.elim) (fun _ h => h) fun q hq e => ?_, fun q hq => ?_⟩, fun _ q hq => ?_⟩
  · subst e
    exact n (h4 q hq)
  · obtain ⟨a1, a2, a3⟩ := tm hA q hq
    refine ⟨a1, fun j hj => ?_, a3⟩
    rcases pu_mem hj with ⟨_, h⟩ | ⟨hji, h⟩
    · rcases List.mem_cons.mp h with rfl | h
      · exact n (h4 q hq)
      · exact h6 q hq h
    · exact a2 j (by rw [pu_ne hji]; exact h)
  · by_cases he : i ∈ e0
    · rcases s0.fn i he q (hA q hq) with ⟨j, hj, x⟩ | x
      · exact .inr ⟨j, List.mem_append_left _ hj, x⟩
      · exact .inl x
    · have := hA q hq
      rw [(s0.fx i he).1] at this
      exact .inr ⟨i, List.mem_append_right _ (List.mem_singleton.mpr rfl), this⟩
theorem few1 {a : Expr} (hs : noStar a = true) (env : PySem.Env) (cpos : Pos) : ((backTo cpos (starEach [a] env)).all (fun x => !x.1) && (backToKw cpos (keywordEach [] env)).all (fun x => x.1.isSome)
      && decide (([a] : List Expr).length + ([] : List Keyword).length + (if ([] : List Keyword).isEmpty then 0 else 1) < 30)) = true := by
  rw [noStar_ok hs]
  rfl
theorem snd_popAt {x : Str} {i : Nat} {p ap : Pos} (hN : X.N[i]? = some x) (hv : Vis X.env.scope x) (h1 : (x == ("__debug__" : Str)) = false) (h2 : (x == ("__classdict__" : Str)) = false) (hs : noStar a = true) (hl : (ap.endLine == pos.line) = true)
    (hk : kd ks i = .ow) (ha : SndE X φ ks cl E a a' ma ea) (hoff : i ∉ ea) :
    SndE X φ ks cl E (.Call (.Attribute (.Name x p) "pop" ap) [a] [] pos) (.pop i (some a')) .ow (ea ++ [i]) := by
  obtain ⟨ta, pa, qa⟩ := ha
  refine ⟨_, pe_bm PySem.F.plainAttrs_list PySem.F.slot_list_pop PySem.F.type_list_pop mt_popAt (pe_var hN hv h1 h2) (pa_cons pa pa_nil (noStar_ok hs _)) (by rfl) (few1 hs _ _) hl (noStar_ok hs _), fun G H σ Γ Φ Q I h => ?_⟩
  simp only [evE, evO] at h
  have hf : (kd ks i).fr = false := by rw [hk]; rfl
  obtain ⟨ds0, hg0⟩ : ∃ ds0, get Γ i = some (.lst ds0) := by
    unfold lsAt at h
    split at h
    · exact ⟨_, by assumption⟩
    · exact h.elim
  have hls : lsAt Γ i = .ok () Γ := by
    unfold lsAt
    rw [hg0]
  rw [hls, bind_ok] at h
  obtain ⟨p0, vs0, F0, e0, _, _, hp0, _⟩ := I.own hf hg0
  refine ⟨.ref p0, e0, .inl ⟨rfl, _, SqL.of hp0⟩, ?_⟩
  have h' : DenR X ks cl E (ea ++ [i]) (RelE X .ow (ea ++ [i]) H Φ) ((evE φ a' Γ).bind fun d Γ => (R.ofo ((toInt d).map some) Γ).bind fun o Γ => (R.ofo ((get Γ i).bind fun d => popD d o) Γ).bind fun p Γ => .ok p.1 (put Γ i p.2)) G H σ Γ Φ Q := by
    cases hev : evE φ a' Γ <;> rw [hev] at h <;> exact h
  refine qa G H σ Γ Φ _ I (h'.seq sub_l fun d Γ1 G1 H1 Φ1 w I1 s1 r1 h1 => ?_)
  obtain ⟨F1, r1, _⟩ := r1
  have o1 := r1.own
  cases d <;> first | exact h1.elim | skip
  rename_i n
  cases o1
  simp only [toInt, Option.map_some, ofo_some, bind_ok] at h1
  cases hg : get Γ1 i with
  | none =>
    rw [hg] at h1
    exact h1.elim
  | some dd =>
    rw [hg] at h1
    simp only [Option.bind_some] at h1
    cases dd <;> first | exact h1.elim | skip
    rename_i ds
    simp only [popD] at h1
    split at h1
    · rename_i hb
      rw [popR_eq, popR0, decide_eq_true_eq] at hb
      cases hk1 : seqIndex? n ds.length with
      | none =>
        rw [hk1] at h1
        exact h1.elim
      | some k =>
        rw [hk1] at h1
        simp only [Option.bind_some] at h1
        cases hz : ds[k]? with
        | none =>
          rw [hz] at h1
          exact h1.elim
        | some z =>
          rw [hz] at h1
          simp only [Option.map_some, ofo_some, bind_ok] at h1
          obtain ⟨p, vs, y, e1, hp, hl1, hy, q⟩ := pop_fin I1 s1 hk hg hz h1
          have ep : p0 = p := by
            rw [e0] at e1
            cases e1
            rfl
          subst ep
          exact ⟨p0, vs, n, k, y, rfl, rfl, hp, hb.1, hb.2, by rw [hl1]; exact hk1, hy, q⟩
    · exact h1.elim
theorem few0 (env : PySem.Env) (cpos : Pos) : True := trivial
theorem snd_pop {x : Str} {i : Nat} {p ap : Pos} (hN : X.N[i]? = some x) (hv : Vis X.env.scope x) (h1 : (x == ("__debug__" : Str)) = false) (h2 : (x == ("__classdict__" : Str)) = false) (hl : (ap.endLine == pos.line) = true)
    (hk : kd ks i = .ow) :
    SndE X φ ks cl E (.Call (.Attribute (.Name x p) "pop" ap) [] [] pos) (.pop i none) .ow [i] := by
  refine ⟨_, pe_bm0 PySem.F.plainAttrs_list PySem.F.slot_list_pop PySem.F.type_list_pop mt_pop (pe_var hN hv h1 h2) (by rfl) hl, fun G H σ Γ Φ Q I h => ?_⟩
  simp only [evE, evO] at h
  have hf : (kd ks i).fr = false := by rw [hk]; rfl
  obtain ⟨ds, hg⟩ : ∃ ds0, get Γ i = some (.lst ds0) := by
    unfold lsAt at h
    split at h
    · exact ⟨_, by assumption⟩
    · exact h.elim
  have hls : lsAt Γ i = .ok () Γ := by
    unfold lsAt
    rw [hg]
  rw [hls, bind_ok, bind_ok, hg] at h
  simp only [Option.bind_some, popD] at h
  cases hz : ds[ds.length - 1]? with
  | none =>
    rw [hz] at h
    exact h.elim
  | some z =>
    rw [hz] at h
    simp only [Option.map_some, ofo_some, bind_ok] at h
    have e : ds.dropLast = ds.eraseIdx (ds.length - 1) := by
      rw [List.eraseIdx_eq_take_drop_succ, List.dropLast_eq_take]
      have : ds.length - 1 + 1 ≥ ds.length := by omega
      rw [List.drop_eq_nil_of_le this, List.append_nil]
    rw [e] at h
    obtain ⟨p, vs, y, e1, hp, hl1, hy, q⟩ := pop_fin (e0 := []) I (Step.refl) hk hg hz h
    refine ⟨.ref p, e1, .inl ⟨rfl, _, SqL.of hp⟩, p, vs, y, rfl, rfl, hp, by rw [hl1]; exact hy, ?_⟩
    have e' : vs.dropLast = vs.eraseIdx (ds.length - 1) := by
      rw [← hl1, List.eraseIdx_eq_take_drop_succ, List.dropLast_eq_take]
      have : vs.length - 1 + 1 ≥ vs.length := by omega
      rw [List.drop_eq_nil_of_le this, List.append_nil]
    rw [e']
    exact q
end
end CW
/-! Targets. -/
namespace CW
open PySem L2
mutual
def Tg.slots : Tg → List Nat
  | .nm i _ => [i]
  | .tup ts => Tg.slotsL ts
def Tg.slotsL : List Tg → List Nat
  | [] => []
  | t :: ts => t.slots ++ Tg.slotsL ts
end
/-- what a name may take -/
def takes (ks : List Kd) (m : Md) (i : Nat) (ck : Bool) : Bool := match kd ks i with
  | .im => ck || m == .im
  | .sh => ck || m == .im || m == .sh
  | .ow => ck || m == .im
  | .os => false
section
variable {X : Cx} {φ : FEnv} {ks : List Kd} {cl : Nat → Addr} {E : L2.St → XK} {G G1 G2 G' : Addr → Prop} {H H0 H' H1 H2 : Hp} {σ σ1 σ2 : L2.St} {Γ Γ1 Γ2 Γ' : Env} {Φ Φ0 Φ1 Φ2 : Nat → List Addr}
variable {m : Md} {eff : List Nat} {pos : Pos} {F F' : List Addr} {v : V} {d : D} {vs : List V} {ds : List D} {K : PySem.W.Frag}

/-- a name that may be stored to -/
structure NmOk (X : Cx) (ks : List Kd) (x : Str) (i : Nat) : Prop where
  nd : X.N.Nodup
  at_ : X.N[i]? = some x
  loc : Loc X.env.scope x
  fn : X.fn x = true ∨ X.env.scope.names.lookup x = some .local
  lt : i < ks.length
def SndG (X : Cx) (ks : List Kd) (m : Md) (e : Expr) (tg : Tg) : Prop :=
  ∃ g, PG X e g ∧ ∀ (G : Addr → Prop) (H : Hp) (σ : L2.St) (Γ Γ' : Env) (Φ : Nat → List Addr) (F : List Addr) (v : V) (d : D) (Q : L2.St → Hp → Prop), SI X.K ks G H σ Γ Φ → Res X.K m G H Φ F v d → Tg.bind tg d Γ = some Γ' →
    (∀ σ' Φ', SI X.K ks G H σ' Γ' Φ' → Step tg.slots G H Φ Γ G H Φ' Γ' → (∀ j, j ∉ tg.slots → σ'[j]? = σ[j]?) → Q σ' H) → g v σ H Q
def SndGs (X : Cx) (ks : List Kd) (m : Md) (es : List Expr) (ts : List Tg) : Prop :=
  ∃ g, PGs X es g ∧ ∀ (G : Addr → Prop) (H : Hp) (σ : L2.St) (Γ Γ' : Env) (Φ : Nat → List Addr) (vs : List V) (ds : List D) (Q : L2.St → Hp → Prop), SI X.K ks G H σ Γ Φ → vs.length = ds.length → (∀ (j : Nat) v d, vs[j]? = some v → ds[j]? = some d → ∃ F, Res X.K m G H Φ F v d) → Tg.binds ts ds Γ = some Γ' →
    (∀ σ' Φ', SI X.K ks G H σ' Γ' Φ' → Step (Tg.slotsL ts) G H Φ Γ G H Φ' Γ' → (∀ j, j ∉ Tg.slotsL ts → σ'[j]? = σ[j]?) → Q σ' H) → g vs σ H Q
theorem Step.putS {i : Nat} (hF : ∀ p ∈ F, (∃ j ∈ eff, p ∈ Φ j) ∨ H p = none) (hi : i ∈ eff) : Step eff G H Φ Γ G H (pu Φ i F) (put Γ i d) :=
  ⟨fun _ h => h, fun _ h => .inl h, fun p o h _ => h, fun j hj => by
    have hji : j ≠ i := fun q => hj (q ▸ hi)
    unfold put
    rw [pu_ne hji, List.getElem?_set_ne hji.symm]
    exact ⟨rfl, rfl⟩, fun j hj p hp => by
    rcases pu_mem hp with ⟨_, q⟩ | ⟨_, q⟩
    · exact hF p q
    · exact .inl ⟨j, hj, q⟩, fun _ h => h⟩
theorem sg_nm {x : Str} {i : Nat} {ck : Bool} (h : NmOk X ks x i) (ht : takes ks m i ck = true) : SndG X ks m (.Name x pos) (.nm i ck) := by
  refine ⟨_, pg_name h.nd h.at_ h.loc h.fn, fun G H σ Γ Γ' Φ F v d Q I r hb k => ?_⟩
  simp only [Tg.bind] at hb
  split at hb
  · rename_i hc
    cases hb
    have hi : i < σ.length := by rw [← I.kl]; exact h.lt
    have fin : ∀ (o : Own X.K ((kd ks i).g G) H [] v d), kd ks i ≠ .os → Q (σ.set i (some v)) H := fun o no =>
      k _ (pu Φ i []) (I.put hi o (fun _ => rfl) (fun q => absurd q no) Tmp.nil) (Step.putS (fun _ h => nomatch h) (by simp [Tg.slots])) fun j hj => List.getElem?_set_ne fun e => hj (by simp [Tg.slots, e])
    by_cases hck : ck = true
    · have im : d.imm = true := by simpa [hck] using hc
      have o := (r.own.immut im).2
      refine fin (o.mono NoG.le) fun q => ?_
      unfold takes at ht
      rw [q] at ht
      cases ht
    · have hck : ck = false := by simpa using hck
      subst hck
      unfold takes at ht
      cases hk : kd ks i with
      | im =>
        rw [hk] at ht
        have e : m = .im := by simpa using ht
        subst e
        exact fin (by rw [hk]; exact r.2) (by rw [hk]; exact fun h => nomatch h)
      | sh =>
        rw [hk] at ht
        have e : m = .im ∨ m = .sh := by simpa using ht
        rcases e with rfl | rfl
        · exact fin (by rw [hk]; exact r.2.mono NoG.le) (by rw [hk]; exact fun h => nomatch h)
        · exact fin (by rw [hk]; exact r.2) (by rw [hk]; exact fun h => nomatch h)
      | ow =>
        rw [hk] at ht
        have e : m = .im := by simpa using ht
        subst e
        exact fin (by rw [hk]; exact r.2) (by rw [hk]; exact fun h => nomatch h)
      | os =>
        rw [hk] at ht
        cases ht
  · cases hb
theorem sgs_nil : SndGs X ks m [] [] := ⟨_, pgs_nil, fun G H σ Γ Γ' Φ vs ds Q I hl hr hb k => by
  cases ds with
  | nil =>
    simp only [Tg.binds] at hb
    cases hb
    cases vs with
    | nil => exact ⟨rfl, k σ Φ I Step.refl fun _ _ => rfl⟩
    | cons _ _ => cases hl
  | cons _ _ => simp [Tg.binds] at hb⟩
theorem noStarA_ok {e : Expr} {es : List Expr} (h : noStar e = true) (env : PySem.Env) : assignEach (e :: es) env = (false, assign e env) :: assignEach es env := by
  cases e <;> first | rfl | cases h
theorem assignEach_ok : ∀ {es : List Expr} (h : es.all noStar = true) (env : PySem.Env), (assignEach es env).length = es.length ∧ (assignEach es env).findIdx? (·.1) = none
  | [], _, _ => ⟨rfl, rfl⟩
  | e :: es, h, env => by
    rw [List.all_cons, Bool.and_eq_true] at h
    obtain ⟨a, b⟩ := assignEach_ok h.2 env
    rw [noStarA_ok h.1]
    refine ⟨by rw [List.length_cons, List.length_cons, a], ?_⟩
    rw [List.findIdx?_cons, b]
    rfl
theorem sgs_cons {e : Expr} {es : List Expr} {t : Tg} {ts : List Tg} (hs : noStar e = true) (ho : m.off t.slots = true) (h1 : SndG X ks m e t) (h2 : SndGs X ks m es ts) : SndGs X ks m (e :: es) (t :: ts) := by
  obtain ⟨g, pg, qg⟩ := h1
  obtain ⟨gs, pgs, qgs⟩ := h2
  refine ⟨_, pgs_cons pg pgs (by rw [noStarA_ok hs]; rfl), fun G H σ Γ Γ' Φ vs ds Q I hl hr hb k => ?_⟩
  cases ds with
  | nil => simp [Tg.binds] at hb
  | cons d ds =>
    cases vs with
    | nil => cases hl
    | cons v vs =>
      simp only [Tg.binds] at hb
      cases h1 : Tg.bind t d Γ with
      | none =>
        rw [h1] at hb
        cases hb
      | some Γ1 =>
        rw [h1] at hb
        obtain ⟨F, r⟩ := hr 0 v d rfl rfl
        refine ⟨v, vs, rfl, qg G H σ Γ Γ1 Φ F v d _ I r h1 fun σ1 Φ1 I1 s1 a1 => ?_⟩
        refine qgs G H σ1 Γ1 Γ' Φ1 vs ds Q I1 (by simpa using hl) (fun j w d' e1 e2 => ?_) hb fun σ2 Φ2 I2 s2 a2 => k σ2 Φ2 I2 (s1.trans s2) fun j hj => (a2 j fun h => hj (List.mem_append_right _ h)).trans (a1 j fun h => hj (List.mem_append_left _ h))
        obtain ⟨F', r'⟩ := hr (j + 1) w d' (by simpa using e1) (by simpa using e2)
        exact ⟨F', r'.step I s1 ho⟩
theorem sg_tup {es : List Expr} {k : Nat} {ts : List Tg} (hc : X.calm = true) (hm : m.tmp = false) (hs : es.all noStar = true) (hl : es.length = ts.length) (h : SndGs X ks m es ts) : SndG X ks m (.Tuple es k pos) (.tup ts) := by
  obtain ⟨gs, pgs, qgs⟩ := h
  obtain ⟨a1, a2⟩ := assignEach_ok hs X.env
  refine ⟨_, pg_tup hc pgs a1 a2, fun G H σ Γ Γ' Φ F v d Q I r hb k => ?_⟩
  cases d with
  | tup ds =>
    simp only [Tg.bind] at hb
    obtain ⟨p, us, rfl, hp, o, _⟩ := r.own.tups
    have hlen : ∀ {ts : List Tg} {ds : List D} {Γ Γ' : Env}, Tg.binds ts ds Γ = some Γ' → ts.length = ds.length := by
      intro ts
      induction ts with
      | nil =>
        intro ds Γ Γ' h
        cases ds with
        | nil => rfl
        | cons _ _ => simp [Tg.binds] at h
      | cons t ts ih =>
        intro ds Γ Γ' h
        cases ds with
        | nil => simp [Tg.binds] at h
        | cons d ds =>
          simp only [Tg.binds] at h
          cases h1 : Tg.bind t d Γ with
          | none =>
            rw [h1] at h
            cases h
          | some Γ1 =>
            rw [h1] at h
            rw [List.length_cons, List.length_cons, ih h]
    refine ⟨p, us, rfl, SqT.of hp, by rw [o.len, hl, hlen hb], qgs G H σ Γ Γ' Φ us ds Q I o.len (fun j w d' e1 e2 => ?_) hb k⟩
    obtain ⟨u, F', it, q⟩ := r.item hm (ds := ds) rfl e2
    obtain ⟨p', us', ep, hh, e3⟩ := it
    cases ep
    rcases hh with hh | hh <;> rw [hp] at hh <;> cases hh
    rw [e1] at e3
    cases e3
    exact ⟨F', q⟩
  | _ => simp [Tg.bind] at hb
end
end CW
/-! Comprehensions. -/
namespace CW
open PySem L2
section
variable {X : Cx} {φ : FEnv} {ks : List Kd} {cl : Nat → Addr} {E : L2.St → XK} {G G1 G2 G' : Addr → Prop} {H H0 H' H1 H2 : Hp} {σ σ1 σ2 : L2.St} {Γ Γ1 Γ2 Γ' : Env} {Φ Φ0 Φ1 Φ2 Φ' : Nat → List Addr}
variable {m ms : Md} {eff eff' ea eb ec own : List Nat} {pos : Pos} {F F' : List Addr} {v : V} {d : D} {vs : List V} {ds : List D} {K : PySem.W.Frag} {e c : Expr} {ir : CW.E}

theorem wipeE_len : ∀ (own : List Nat), (wipeE Γ own).length = Γ.length
  | [] => rfl
  | i :: is => by rw [wipeE, List.length_set, wipeE_len is]
theorem wipeE_out {j : Nat} : ∀ {own : List Nat}, j ∉ own → (wipeE Γ own)[j]? = Γ[j]?
  | [], _ => rfl
  | i :: is, h => by
    have h1 : i ≠ j := fun e => h (e ▸ List.mem_cons_self)
    rw [wipeE, List.getElem?_set_ne h1, wipeE_out fun q => h (List.mem_cons_of_mem _ q)]
theorem wipeE_in {j : Nat} {d : D} : ∀ {own : List Nat}, j ∈ own → (wipeE Γ own)[j]? ≠ some (some d)
  | i :: is, h, e => by
    rw [wipeE] at e
    by_cases h1 : i = j
    · subst h1
      rw [List.getElem?_set] at e
      simp at e
    · rw [List.getElem?_set_ne h1] at e
      rcases List.mem_cons.mp h with rfl | h
      · exact h1 rfl
      · exact wipeE_in h e
theorem wipe_out {j : Nat} : ∀ {own : List Nat}, j ∉ own → (wipe σ own)[j]? = σ[j]?
  | [], _ => rfl
  | i :: is, h => by
    have h1 : i ≠ j := fun e => h (e ▸ List.mem_cons_self)
    rw [wipe, List.getElem?_set_ne h1, wipe_out fun q => h (List.mem_cons_of_mem _ q)]
theorem backE_len : ∀ (own : List Nat), (backE Γ1 Γ own).length = Γ.length
  | [] => rfl
  | i :: is => by rw [backE, List.length_set, backE_len is]
theorem backE_out {j : Nat} : ∀ {own : List Nat}, j ∉ own → (backE Γ1 Γ own)[j]? = Γ[j]?
  | [], _ => rfl
  | i :: is, h => by
    have h1 : i ≠ j := fun e => h (e ▸ List.mem_cons_self)
    rw [backE, List.getElem?_set_ne h1, backE_out fun q => h (List.mem_cons_of_mem _ q)]
theorem backE_in {j : Nat} (hl : Γ.length = Γ1.length) : ∀ {own : List Nat}, j ∈ own → (backE Γ1 Γ own)[j]? = Γ1[j]?
  | i :: is, h => by
    by_cases h1 : i = j
    · subst h1
      rw [backE]
      by_cases hi : i < (backE Γ1 Γ is).length
      · rw [List.getElem?_set_self hi]
        rw [backE_len, hl] at hi
        rw [List.getElem?_eq_getElem hi]
        rfl
      · rw [List.getElem?_eq_none (by rw [List.length_set]; omega), List.getElem?_eq_none (by rw [backE_len, hl] at hi; omega)]
    · rw [backE, List.getElem?_set_ne h1]
      rcases List.mem_cons.mp h with rfl | h
      · exact absurd rfl h1
      · exact backE_in hl h
theorem SI.wipe (I : SI K ks G H σ Γ Φ) (h : ∀ j ∈ own, (kd ks j).fr = true) : SI K ks G H (L2.wipe σ own) (wipeE Γ own) Φ := by
  refine ⟨by rw [wipeE_len, wipe_length]; exact I.len, by rw [wipe_length]; exact I.kl, fun j d hj => ?_, fun j hj => ?_, I.sh, fun j d hj => ?_, I.dis, I.gd, I.gl⟩
  · by_cases hm : j ∈ own
    · exact absurd hj (wipeE_in hm)
    · rw [wipeE_out hm] at hj
      rw [wipe_out hm]
      exact I.slot j d hj
  · by_cases hm : j ∈ own
    · exact I.sh j (h j hm)
    · exact I.non j fun d q => hj d (by rw [wipeE_out hm]; exact q)
  · by_cases hm : j ∈ own
    · exact absurd hj (wipeE_in hm)
    · rw [wipeE_out hm] at hj
      exact I.os j d hj
/-- behind the block: the def's own names again -/
theorem SI.back (I : SI K ks G H σ Γ Φ) (I' : SI K ks G' H' (L2.wipe σ own) (wipeE Γ' own) Φ') (s : Step eff G H Φ (wipeE Γ own) G' H' Φ' (wipeE Γ' own)) (h : ∀ j ∈ own, (kd ks j).fr = true) (hl : Γ'.length = Γ.length) : SI K ks G' H' σ (backE Γ Γ' own) Φ' := by
  refine ⟨by rw [backE_len, hl]; exact I.len, I.kl, fun j d hj => ?_, fun j hj => ?_, I'.sh, fun j d hj => ?_, I'.dis, I'.gd, I'.gl⟩
  · by_cases hm : j ∈ own
    · rw [backE_in hl hm] at hj
      obtain ⟨v, a, b⟩ := I.slot j d hj
      refine ⟨v, a, ?_⟩
      have h0 := I.sh j (h j hm)
      have h1 := I'.sh j (h j hm)
      rw [h0] at b
      rw [h1]
      cases hk : kd ks j with
      | im => rw [hk] at b; exact b.step0 I ⟨s.g, s.gn, s.kp, fun i hi => ⟨(s.fx i hi).1, rfl⟩, s.fn, s.ex⟩ (Γ1 := Γ) fun _ h => nomatch h
      | sh => rw [hk] at b; exact b.step I ⟨s.g, s.gn, s.kp, fun i hi => ⟨(s.fx i hi).1, rfl⟩, s.fn, s.ex⟩ (Γ1 := Γ) fun _ h => nomatch h
      | ow => have := h j hm; rw [hk] at this; cases this
      | os => have := h j hm; rw [hk] at this; cases this
    · rw [backE_out hm] at hj
      obtain ⟨v, a, b⟩ := I'.slot j d (by rw [wipeE_out hm]; exact hj)
      rw [wipe_out hm] at a
      exact ⟨v, a, b⟩
  · by_cases hm : j ∈ own
    · exact I'.sh j (h j hm)
    · exact I'.non j fun d q => hj d (by rw [backE_out hm]; rw [wipeE_out hm] at q; exact q)
  · by_cases hm : j ∈ own
    · intro q
      have := h j hm
      rw [q] at this
      cases this
    · rw [backE_out hm] at hj
      exact I'.os j d (by rw [wipeE_out hm]; exact hj)
theorem Step.back (s : Step eff G H Φ (wipeE Γ own) G' H' Φ' (wipeE Γ' own)) (hl : Γ'.length = Γ.length) : Step eff G H Φ Γ G' H' Φ' (backE Γ Γ' own) :=
  ⟨s.g, s.gn, s.kp, fun j hj => ⟨(s.fx j hj).1, by
    by_cases hm : j ∈ own
    · exact backE_in hl hm
    · rw [backE_out hm]
      have := (s.fx j hj).2
      rw [wipeE_out hm, wipeE_out hm] at this
      exact this⟩, s.fn, s.ex⟩
/-- the block's own names are no effect -/
theorem Step.strip (nil : ∀ j ∈ own, Φ j = []) (nil' : ∀ j ∈ own, Φ' j = []) (s : Step (own ++ eff) G H Φ (wipeE Γ own) G' H' Φ' Γ') (hl : Γ'.length = Γ.length) : Step eff G H Φ (wipeE Γ own) G' H' Φ' (wipeE Γ' own) := by
  refine ⟨s.g, fun p g => ?_, fun p o e n => s.kp p o e fun i hi hp => ?_, fun j hj => ?_, fun i hi p hp => ?_, s.ex⟩
  · rcases s.gn p g with q | q | ⟨i, hi, q⟩
    · exact .inl q
    · exact .inr (.inl q)
    · rcases List.mem_append.mp hi with hi | hi
      · rw [nil i hi] at q
        exact nomatch q
      · exact .inr (.inr ⟨i, hi, q⟩)
  · rcases List.mem_append.mp hi with hi | hi
    · rw [nil i hi] at hp
      exact nomatch hp
    · exact n i hi hp
  · by_cases hm : j ∈ own
    · refine ⟨by rw [nil' j hm, nil j hm], ?_⟩
      have e1 : ∀ (Δ : Env), Δ.length = Γ.length → (wipeE Δ own)[j]? = if j < Γ.length then some none else none := fun Δ hd => by
        split
        · rename_i hlt
          cases q : (wipeE Δ own)[j]? with
          | none =>
            have := List.getElem?_eq_none_iff.mp q
            rw [wipeE_len, hd] at this
            omega
          | some o =>
            cases o with
            | none => rfl
            | some d => exact absurd q (wipeE_in hm)
        · rename_i hlt
          exact List.getElem?_eq_none (by rw [wipeE_len, hd]; omega)
      rw [e1 Γ' hl, e1 Γ rfl]
    · have hne : j ∉ own ++ eff := fun q => (List.mem_append.mp q).elim hm hj
      obtain ⟨a, b⟩ := s.fx j hne
      exact ⟨a, by rw [wipeE_out hm, b]⟩
  · rcases s.fn i (List.mem_append_right _ hi) p hp with ⟨j, hj, q⟩ | q
    · rcases List.mem_append.mp hj with hj | hj
      · rw [nil j hj] at q
        exact nomatch q
      · exact .inl ⟨j, hj, q⟩
    · exact .inr q
/-- a cell of nobody's changes -/
theorem SI.nobody {D0 : Addr} {xs ys : List V} (I : SI K ks G H σ Γ Φ) (hD : H D0 = some (.lst xs)) (h1 : ¬ G D0) (h2 : ∀ i, D0 ∉ Φ i) : SI K ks G (upd H D0 (.lst ys)) σ Γ Φ := by
  have kp : Kp (fun q => q = D0) H (upd H D0 (.lst ys)) := fun q o e n => by
    rw [upd_ne n]
    exact e
  have wl0 : Wl (fun q => q = D0) H := fun q e o h => by
    subst e
    rw [hD] at h
    exact ⟨xs, (Option.some.inj h).symm⟩
  refine ⟨I.len, I.kl, fun j d hj => ?_, I.non, I.sh, I.os, I.dis, I.gd, fun q g h => ?_⟩
  · obtain ⟨v, a, b⟩ := I.slot j d hj
    exact ⟨v, a, b.keep kp wl0 (fun q g e => h1 (e ▸ Kd.g_le q g)) (fun _ h => h) fun q hq e => h2 j (e ▸ hq)⟩
  · by_cases e : q = D0
    · subst e
      exact h1 g
    · rw [upd_ne e] at h
      exact I.gl q g h
theorem ResD.nobody {D0 : Addr} {xs ys : List V} (r : ResD K m G H Φ F vs ds) (hD : H D0 = some (.lst xs)) (h1 : ¬ G D0) (h3 : D0 ∉ F) : ResD K m G (upd H D0 (.lst ys)) Φ F vs ds := by
  have kp : Kp (fun q => q = D0) H (upd H D0 (.lst ys)) := fun q o e n => by
    rw [upd_ne n]
    exact e
  have wl0 : Wl (fun q => q = D0) H := fun q e o h => by
    subst e
    rw [hD] at h
    exact ⟨xs, (Option.some.inj h).symm⟩
  have tm : Tmp G H Φ F → Tmp G (upd H D0 (.lst ys)) Φ F := fun t p hp => ⟨(t p hp).1, (t p hp).2.1, by
    rw [upd_ne (show p ≠ D0 from fun e => h3 (e ▸ hp))]
    exact (t p hp).2.2⟩
  cases m with
  | im => obtain ⟨rfl, r⟩ := r; exact ⟨rfl, r.keep kp wl0 (fun _ h => h.elim) (fun _ h => h) fun _ h => nomatch h⟩
  | sh => obtain ⟨rfl, r⟩ := r; exact ⟨rfl, r.keep kp wl0 (fun q g e => h1 (e ▸ g)) (fun _ h => h) fun _ h => nomatch h⟩
  | ow => exact ⟨r.1.keep kp wl0 (fun _ h => h.elim) (fun _ h => h) fun q hq e => h3 (e ▸ hq), tm r.2⟩
  | os => exact ⟨r.1.keep kp wl0 (fun q g e => h1 (e ▸ g)) (fun _ h => h) fun q hq e => h3 (e ▸ hq), tm r.2⟩
  | rd _ => exact r.elim
theorem Step.nobody {D0 : Addr} {xs ys : List V} (s : Step eff G H Φ Γ G1 H1 Φ1 Γ1) (h0 : H D0 = none) (hD : H1 D0 = some (.lst xs)) : Step eff G H Φ Γ G1 (upd H1 D0 (.lst ys)) Φ1 Γ1 := by
  refine ⟨s.g, s.gn, fun p o e n => ?_, s.fx, s.fn, fun p hp => ?_⟩
  · have : p ≠ D0 := fun q => by
      subst q
      rw [h0] at e
      cases e
    rw [upd_ne this]
    exact s.kp p o e n
  · by_cases q : p = D0
    · subst q
      exact h0
    · rw [upd_ne q] at hp
      exact s.ex p hp
/-- one more item -/
theorem ResD.snoc (r : ResD K m G H Φ F vs ds) (q : ResEl K m G H Φ F' v d) (h : ∀ p ∈ F, p ∉ F') : ResD K m G H Φ (F ++ F') (vs ++ [v]) (ds ++ [d]) := by
  cases m with
  | im => obtain ⟨rfl, r⟩ := r; obtain ⟨rfl, q⟩ := q; exact ⟨rfl, r.append0 (.cons0 q .nil)⟩
  | sh => obtain ⟨rfl, r⟩ := r; obtain ⟨rfl, q⟩ := q; exact ⟨rfl, r.append0 (.cons0 q .nil)⟩
  | ow => exact ⟨r.1.snoc q.1 h, fun p hp => (List.mem_append.mp hp).elim (r.2 p) (q.2 p)⟩
  | os => exact ⟨r.1.snoc q.1 h, fun p hp => (List.mem_append.mp hp).elim (r.2 p) (q.2 p)⟩
  | rd _ => exact r.elim

/-! ### readings that do not lean on the context -/
def tD (φ : FEnv) (X : Cx) (ks : List Kd) (cl : Nat → Addr) (E : L2.St → XK) (m : Md) (eff : List Nat) (ir : CW.E) : TE := fun σ H Q => ∃ G Γ Φ, SI X.K ks G H σ Γ Φ ∧ DenR X ks cl E eff (RelE X m eff H Φ) (evE φ ir Γ) G H σ Γ Φ Q
def tDT (φ : FEnv) (X : Cx) (ks : List Kd) (cl : Nat → Addr) (E : L2.St → XK) (eff : List Nat) (ir : Option CW.E) : TT := fun σ H Q => ∃ G Γ Φ, SI X.K ks G H σ Γ Φ ∧ DenR X ks cl E eff (fun _ _ _ (d v : Bool) => v = d) (evC φ ir Γ) G H σ Γ Φ Q
def tDG (X : Cx) (ks : List Kd) (m : Md) (tg : Tg) : TG := fun v σ H Q => ∃ G Γ Γ' Φ F d, SI X.K ks G H σ Γ Φ ∧ Res X.K m G H Φ F v d ∧ Tg.bind tg d Γ = some Γ' ∧ ∀ σ' Φ', SI X.K ks G H σ' Γ' Φ' → Step tg.slots G H Φ Γ G H Φ' Γ' → (∀ j, j ∉ tg.slots → σ'[j]? = σ[j]?) → Q σ' H
theorem SndE.canon (h : SndE X φ ks cl E e ir m eff) : PE X e (tD φ X ks cl E m eff ir) := by
  obtain ⟨t, p, q⟩ := h
  exact ⟨fun pins s σ H Q I ⟨G, Γ, Φ, si, den⟩ => p.run pins s σ H Q I (q G H σ Γ Φ Q si den)⟩
theorem SndT.canon (h : SndT X φ ks cl E e ir eff) : PT X e (tDT φ X ks cl E eff (some ir)) := by
  obtain ⟨t, p, q⟩ := h
  exact ⟨fun pins s σ H Q I ⟨G, Γ, Φ, si, den⟩ => p.run pins s σ H Q I (q G H σ Γ Φ Q si den)⟩
theorem SndG.canon {tg : Tg} (h : SndG X ks m e tg) : PG X e (tDG X ks m tg) := by
  obtain ⟨t, p, q⟩ := h
  exact ⟨fun pins s σ H v u Q I r ⟨G, Γ, Γ', Φ, F, d, si, re, hb, k⟩ => p.run pins s σ H v u Q I r (q G H σ Γ Γ' Φ F v d Q si re hb k)⟩

/-! ### the loop of a comprehension -/
abbrev noE : L2.St → XK := fun _ _ _ _ => False
/-- a clause's test, or none -/
def tdIf (φ : FEnv) (X : Cx) (ks : List Kd) (cl : Nat → Addr) (ec : List Nat) (c : Option CW.E) : TT := match c with
  | none => tYes
  | some c => tDT φ X ks cl noE ec (some c)
noncomputable def compT (φ : FEnv) (own : List Nat) (tg : Tg) (c : Option CW.E) (elt : CW.E) (d : D) (Γ : Env) : R (Option D) :=
  noExc ((R.ofo (Tg.bind tg d (wipeE Γ own)) Γ).bind fun Γ _ => (evC φ c Γ).bind fun k Γ => if k then (evE φ elt Γ).bind fun y Γ => .ok (some y) Γ else .ok none Γ)
theorem noExc_ok {α : Type} {r : R α} {a : α} {Γ : Env} (h : noExc r = .ok a Γ) : r = .ok a Γ := by
  cases r <;> first | exact h | cases h
theorem compL_ok {T : D → Env → R (Option D)} (hT : ∀ d Γ c Γ', T d Γ ≠ .exc c Γ') : ∀ {ds acc : List D} {Γ : Env}, (∃ ys Γ', compL T ds acc Γ = .ok ys Γ') ∨ compL T ds acc Γ = .bad
  | [], acc, Γ => .inl ⟨_, _, rfl⟩
  | d :: ds, acc, Γ => by
    rw [compL]
    cases h : T d Γ with
    | ok o Γ' => exact compL_ok hT
    | exc c Γ' => exact absurd h (hT _ _ _ _)
    | bad => exact .inr rfl
theorem compT_ne {own : List Nat} {tg : Tg} {c : Option CW.E} {elt : CW.E} (d : D) (Γ : Env) (k : Nat) (Γ' : Env) : compT φ own tg c elt d Γ ≠ .exc k Γ' := by
  unfold compT
  generalize (R.ofo (Tg.bind tg d (wipeE Γ own)) Γ).bind _ = r
  cases r <;> exact fun h => nomatch h
/-- lengths stay -/
theorem put_len {i : Nat} : (put Γ i d).length = Γ.length := by unfold put; exact List.length_set
structure CI (X : Cx) (φ : FEnv) (ks : List Kd) (own : List Nat) (tg : Tg) (c : Option CW.E) (elt : CW.E) (me : Md) (eff : List Nat) (σ : L2.St) (D0 : Addr) (G1 : Addr → Prop) (H1 : Hp) (Φ1 : Nat → List Addr) (Γ1 : Env) (ds ys : List D) (Γ2 : Env) (i : Nat) (H : Hp) : Prop where
  ex : ∃ (G : Addr → Prop) (Γ : Env) (Φ : Nat → List Addr) (acc : List D) (av : List V) (F : List Addr), compL (compT φ own tg c elt) (ds.drop i) acc Γ = .ok ys Γ2 ∧ Γ.length = Γ1.length ∧ SI X.K ks G H (L2.wipe σ own) (wipeE Γ own) Φ ∧
    Step eff G1 H1 Φ1 (wipeE Γ1 own) G H Φ (wipeE Γ own) ∧ H D0 = some (.lst av) ∧ ResD X.K me G H Φ F av acc.reverse ∧ Org me eff H1 Φ1 F ∧ ¬ G D0 ∧ (∀ j, D0 ∉ Φ j) ∧ D0 ∉ F ∧ acc.length ≤ i
theorem wipe_wipe : ∀ {own own' : List Nat} {σ : L2.St}, (∀ j ∈ own', j ∈ own) → True := fun _ => trivial
theorem wipe_eq {σ σ2 : L2.St} (hl : σ2.length = σ.length) (h : ∀ j, j ∉ own → σ2[j]? = σ[j]?) : L2.wipe σ2 own = L2.wipe σ own := by
  apply List.ext_getElem?
  intro j
  by_cases hm : j ∈ own
  · have nn : ∀ (τ : L2.St), τ.length = σ.length → (L2.wipe τ own)[j]? = if j < σ.length then some none else none := fun τ ht => by
      split
      · rename_i hlt
        cases q : (L2.wipe τ own)[j]? with
        | none =>
          have := List.getElem?_eq_none_iff.mp q
          rw [wipe_length, ht] at this
          omega
        | some o =>
          cases o with
          | none => rfl
          | some v => exact absurd hm (wipe_some q).2
      · exact List.getElem?_eq_none (by rw [wipe_length, ht]; omega)
    rw [nn σ2 hl, nn σ rfl]
  · rw [wipe_out hm, wipe_out hm, h j hm]

theorem wipe_idem : L2.wipe (L2.wipe σ own) own = L2.wipe σ own := wipe_eq (wipe_length _ _) fun _ hj => wipe_out hj
/-- a cell of nobody's through a step -/
theorem Step.nob {D0 : Addr} {o : HO} (s : Step eff G H Φ Γ G1 H1 Φ1 Γ1) (hD : H D0 = some o) (nG : ¬ G D0) (nΦ : ∀ j, D0 ∉ Φ j) : H1 D0 = some o ∧ ¬ G1 D0 ∧ ∀ j, D0 ∉ Φ1 j := by
  refine ⟨s.kp D0 o hD fun i _ => nΦ i, fun g => ?_, fun j hj => ?_⟩
  · rcases s.gn D0 g with q | q | ⟨i, _, q⟩
    · exact nG q
    · rw [hD] at q
      cases q
    · exact nΦ i q
  · by_cases he : j ∈ eff
    · rcases s.fn j he D0 hj with ⟨i, _, q⟩ | q
      · exact nΦ i q
      · rw [hD] at q
        cases q
    · rw [(s.fx j he).1] at hj
      exact nΦ j hj
theorem ResD.tmp (r : ResD K m G H Φ F vs ds) : F = [] ∨ (m.tmp = true ∧ Tmp G H Φ F) := by
  cases m with
  | im => exact .inl r.1
  | sh => exact .inl r.1
  | ow => exact .inr ⟨rfl, r.2⟩
  | os => exact .inr ⟨rfl, r.2⟩
  | rd _ => exact r.elim
theorem Res.tmpF (r : Res K m G H Φ F v d) (h : m.tmp = false) (hr : ∀ q, m ≠ .rd q) : F = [] := by
  cases m with
  | im => exact r.1
  | sh => exact r.1
  | ow => cases h
  | os => cases h
  | rd q => exact absurd rfl (hr q)
theorem le_not_rd {m m' : Md} (h : m.le m' = true) : ∀ q, m ≠ .rd q := fun q e => by
  subst e
  cases m' <;> cases h
theorem comp_next {own : List Nat} {tg : Tg} {c : Option CW.E} {elt : CW.E} {me : Md} {D0 : Addr} {ys : List D} {i : Nat} {acc acc' : List D} {av av' : List V} {σ2 : L2.St} {Γb : Env} {Gb : Addr → Prop} {Hb : Hp} {Φb : Nat → List Addr}
    (hown : ∀ j ∈ own, (kd ks j).fr = true) (I1 : SI X.K ks G1 H1 (L2.wipe σ own) (wipeE Γ1 own) Φ1) (Ib : SI X.K ks Gb Hb σ2 Γb Φb) (hσ : L2.wipe σ2 own = L2.wipe σ own)
    (sb : Step (own ++ eff) G1 H1 Φ1 (wipeE Γ1 own) Gb Hb Φb Γb)
    (hc : compL (compT φ own tg c elt) (ds.drop (i + 1)) acc' Γb = .ok ys Γ2) (hD : Hb D0 = some (.lst av')) (r : ResD X.K me Gb Hb Φb F av' acc'.reverse) (org : Org me eff H1 Φ1 F) (nG : ¬ Gb D0) (nΦ : ∀ j, D0 ∉ Φb j) (nF : D0 ∉ F) (hal : acc'.length ≤ i + 1) :
    CI X φ ks own tg c elt me eff σ D0 G1 H1 Φ1 Γ1 ds ys Γ2 (i + 1) Hb := by
  have hl : Γb.length = Γ1.length := by
    have a := Ib.len
    have b := Ib.kl
    have a1 := I1.len
    have b1 := I1.kl
    rw [wipeE_len] at a1
    omega
  refine ⟨Gb, Γb, Φb, acc', av', F, hc, hl, by rw [← hσ]; exact Ib.wipe hown, Step.strip (fun j hj => I1.sh j (hown j hj)) (fun j hj => Ib.sh j (hown j hj)) sb hl, hD, r, org, nG, nΦ, nF, hal⟩
theorem comp_turnH {own : List Nat} {tg : Tg} {c : Option CW.E} {elt : CW.E} {me m1 : Md} {D0 : Addr} {ys : List D} {i : Nat} {x : V} {d : D}
    (hown : ∀ j ∈ own, (kd ks j).fr = true) (htg : ∀ j ∈ tg.slots, j ∈ own) (hle : m1.le me = true)
    (hds : ds[i]? = some d) (hi : i < sizeLine)
    (hx : ∀ G Φ Γ, SI X.K ks G H (L2.wipe σ own) (wipeE Γ own) Φ → Step (ec ++ ea) G1 H1 Φ1 (wipeE Γ1 own) G H Φ (wipeE Γ own) → ∃ F, Res X.K m G H Φ F x d)
    (I1 : SI X.K ks G1 H1 (L2.wipe σ own) (wipeE Γ1 own) Φ1) (hD0 : H1 D0 = none)
    (p : CI X φ ks own tg c elt me (ec ++ ea) σ D0 G1 H1 Φ1 Γ1 ds ys Γ2 i H) :
    tDG X ks m tg x (L2.wipe σ own) H fun σ2 H2 => L2.wipe σ2 own = L2.wipe σ own ∧ tdIf φ X ks cl ec c σ2 H2 fun b H3 =>
      if b = true then tD φ X ks cl noE m1 ea elt σ2 H3 fun y H4 => ∃ acc, H4 D0 = some (.lst acc) ∧ acc.length < sizeLine ∧ CI X φ ks own tg c elt me (ec ++ ea) σ D0 G1 H1 Φ1 Γ1 ds ys Γ2 (i + 1) (upd H4 D0 (.lst (acc ++ [y])))
      else CI X φ ks own tg c elt me (ec ++ ea) σ D0 G1 H1 Φ1 Γ1 ds ys Γ2 (i + 1) H3 := by
  obtain ⟨G, Γ, Φ, acc, av, F, hc, hlen, I, s, hD, r, org, nG, nΦ, nF, hal⟩ := p.ex
  obtain ⟨Fx, rx⟩ := hx G Φ Γ I s
  have hil : i < ds.length := (List.getElem?_eq_some_iff.mp hds).1
  have hdr : ds.drop i = d :: ds.drop (i + 1) := by
    rw [List.drop_eq_getElem_cons hil]
    congr 1
    rw [List.getElem?_eq_getElem hil] at hds
    exact Option.some.inj hds
  rw [hdr, compL] at hc
  -- the turn
  cases hT : compT φ own tg c elt d Γ with
  | exc k Γ' => exact absurd hT (compT_ne _ _ _ _)
  | bad =>
    rw [hT] at hc
    cases hc
  | ok o Γ' =>
    rw [hT, bind_ok] at hc
    unfold compT at hT
    have hT := noExc_ok hT
    cases hb : Tg.bind tg d (wipeE Γ own) with
    | none =>
      rw [hb] at hT
      cases hT
    | some Γa =>
      rw [hb, ofo_some, bind_ok] at hT
      refine ⟨G, wipeE Γ own, Γa, Φ, Fx, d, I, rx, hb, fun σ2 Φa Ia sa ag => ?_⟩
      have hσ : L2.wipe σ2 own = L2.wipe σ own := (wipe_eq (own := own) (σ := L2.wipe σ own) (by rw [← Ia.kl, ← I.kl]) (fun j hj => ag j fun q => hj (htg j q))).trans wipe_idem
      refine ⟨hσ, ?_⟩
      have s1 : Step (own ++ (ec ++ ea)) G1 H1 Φ1 (wipeE Γ1 own) G H Φa Γa := (s.trans sa).wider fun j hj => by
        rcases List.mem_append.mp hj with hj | hj
        · exact List.mem_append_right _ hj
        · exact List.mem_append_left _ (htg j hj)
      have ra := r.step I sa
      have da := sa.nob hD nG nΦ
      -- behind the test
      have rest : ∀ (k : Bool) (Γb : Env), (if k then (evE φ elt Γb).bind fun y Γ => .ok (some y) Γ else .ok none Γb) = R.ok o Γ' → ∀ Gb Hb Φb, SI X.K ks Gb Hb σ2 Γb Φb → Step ec G H Φa Γa Gb Hb Φb Γb →
          (if k = true then tD φ X ks cl noE m1 ea elt σ2 Hb fun y H4 => ∃ acc, H4 D0 = some (.lst acc) ∧ acc.length < sizeLine ∧ CI X φ ks own tg c elt me (ec ++ ea) σ D0 G1 H1 Φ1 Γ1 ds ys Γ2 (i + 1) (upd H4 D0 (.lst (acc ++ [y])))
          else CI X φ ks own tg c elt me (ec ++ ea) σ D0 G1 H1 Φ1 Γ1 ds ys Γ2 (i + 1) Hb) := by
        intro k Γb hk Gb Hb Φb Ib sb
        have rb := ra.step Ia sb
        obtain ⟨b1, b2, b3⟩ := sb.nob da.1 da.2.1 da.2.2
        have s2 : Step (own ++ (ec ++ ea)) G1 H1 Φ1 (wipeE Γ1 own) Gb Hb Φb Γb := (s1.trans sb).wider fun j hj => by
          rcases List.mem_append.mp hj with hj | hj
          · exact hj
          · exact List.mem_append_right _ (List.mem_append_left _ hj)
        cases k with
        | false =>
          rw [if_neg Bool.false_ne_true] at hk ⊢
          cases hk
          exact comp_next (acc := acc) (acc' := acc) (av := av) hown I1 Ib hσ s2 hc b1 rb org b2 b3 nF (by omega)
        | true =>
          rw [if_pos rfl] at hk ⊢
          refine ⟨Gb, Γb, Φb, Ib, ?_⟩
          cases he : evE φ elt Γb with
          | bad =>
            rw [he] at hk
            cases hk
          | exc _ _ =>
            rw [he] at hk
            cases hk
          | ok y Γc =>
            rw [he, bind_ok] at hk
            cases hk
            intro Gc Hc Φc v Ic sc rel
            obtain ⟨F3, r3, o3⟩ := rel
            have rc := rb.step Ib sc
            obtain ⟨c1, c2, c3⟩ := sc.nob b1 b2 b3
            have s3 : Step (own ++ (ec ++ ea)) G1 H1 Φ1 (wipeE Γ1 own) Gc Hc Φc Γ' := (s2.trans sc).wider fun j hj => by
              rcases List.mem_append.mp hj with hj | hj
              · exact hj
              · exact List.mem_append_right _ (List.mem_append_right _ hj)
            have hav : av.length = acc.length := by rw [r.len, List.length_reverse]
            refine ⟨av, c1, by omega, ?_⟩
            have el := r3.el hle
            have o3' := o3.le r3 hle
            -- the new item's cells are others
            have nf : ∀ p ∈ F3, Hb p = none ∨ ∃ j ∈ ea, p ∈ Φb j := fun p hp => by
              by_cases ht : m1.tmp = true
              · exact o3 ht p hp
              · rw [r3.tmpF (by simpa using ht) (le_not_rd hle)] at hp
                exact nomatch hp
            have nD : D0 ∉ F3 := fun hp => by
              rcases nf D0 hp with q | ⟨j, _, q⟩
              · rw [b1] at q
                cases q
              · exact b3 j q
            have dj : ∀ p ∈ F, p ∉ F3 := fun p hp hq => by
              rcases rb.tmp with e | ⟨_, t⟩
              · rw [e] at hp
                exact nomatch hp
              · obtain ⟨_, t2, t3⟩ := t p hp
                rcases nf p hq with q | ⟨j, _, q⟩
                · exact t3 q
                · exact t2 j q
            have rn := rc.snoc el dj
            have rn' := rn.nobody (ys := av ++ [v]) c1 c2 (fun q => (List.mem_append.mp q).elim nF nD)
            refine comp_next (acc := acc) (av := av) (acc' := y :: acc) (av' := av ++ [v]) (F := F ++ F3) hown I1 (Ic.nobody c1 c2 c3) hσ (s3.nobody hD0 c1) hc upd_same (by rw [List.reverse_cons]; exact rn') (fun t p hp => ?_) c2 c3 (fun q => (List.mem_append.mp q).elim nF nD) (by simp; omega)
            rcases List.mem_append.mp hp with hp | hp
            · exact org t p hp
            · rcases o3' t p hp with q | ⟨j, hj, q⟩
              · exact .inl (s2.ex p q)
              · by_cases hm : j ∈ own ++ (ec ++ ea)
                · rcases s2.fn j hm p q with ⟨l, hl, z⟩ | z
                  · rcases List.mem_append.mp hl with hl | hl
                    · rw [I1.sh l (hown l hl)] at z
                      exact nomatch z
                    · exact .inr ⟨l, hl, z⟩
                  · exact .inl z
                · exact absurd (List.mem_append_right _ (List.mem_append_right _ hj)) hm
      cases c with
      | none =>
        simp only [evC, bind_ok] at hT
        exact rest true Γa hT G H Φa Ia Step.refl
      | some c0 =>
        refine ⟨G, Γa, Φa, Ia, ?_⟩
        cases he : evC φ (some c0) Γa with
        | bad =>
          rw [he] at hT
          cases hT
        | exc _ _ =>
          rw [he] at hT
          cases hT
        | ok k Γb =>
          rw [he, bind_ok] at hT
          intro Gb Hb Φb b Ib sb e
          subst e
          exact rest b Γb hT Gb Hb Φb Ib sb
theorem comp_turn {own : List Nat} {tg : Tg} {c : Option CW.E} {elt : CW.E} {me m1 : Md} {D0 : Addr} {ys : List D} {i : Nat} {x : V} {d : D}
    (hown : ∀ j ∈ own, (kd ks j).fr = true) (htg : ∀ j ∈ tg.slots, j ∈ own) (hle : m1.le me = true)
    (hds : ds[i]? = some d) (hi : i < sizeLine)
    (hx : ∀ G H Φ Γ, SI X.K ks G H (L2.wipe σ own) (wipeE Γ own) Φ → Step (ec ++ ea) G1 H1 Φ1 (wipeE Γ1 own) G H Φ (wipeE Γ own) → ∃ F, Res X.K m G H Φ F x d)
    (I1 : SI X.K ks G1 H1 (L2.wipe σ own) (wipeE Γ1 own) Φ1) (hD0 : H1 D0 = none)
    (p : CI X φ ks own tg c elt me (ec ++ ea) σ D0 G1 H1 Φ1 Γ1 ds ys Γ2 i H) :
    tDG X ks m tg x (L2.wipe σ own) H fun σ2 H2 => L2.wipe σ2 own = L2.wipe σ own ∧ tdIf φ X ks cl ec c σ2 H2 fun b H3 =>
      if b = true then tD φ X ks cl noE m1 ea elt σ2 H3 fun y H4 => ∃ acc, H4 D0 = some (.lst acc) ∧ acc.length < sizeLine ∧ CI X φ ks own tg c elt me (ec ++ ea) σ D0 G1 H1 Φ1 Γ1 ds ys Γ2 (i + 1) (upd H4 D0 (.lst (acc ++ [y])))
      else CI X φ ks own tg c elt me (ec ++ ea) σ D0 G1 H1 Φ1 Γ1 ds ys Γ2 (i + 1) H3 :=
  comp_turnH hown htg hle hds hi (fun G Φ Γ I s => hx G H Φ Γ I s) I1 hD0 p
end
end CW
/-! Comprehensions over lists, tuples, ranges. -/
namespace CW
open PySem L2
section
variable {X : Cx} {φ : FEnv} {ks : List Kd} {cl : Nat → Addr} {E : L2.St → XK} {G G1 G2 G' : Addr → Prop} {H H0 H' H1 H2 : Hp} {σ σ1 σ2 : L2.St} {Γ Γ1 Γ2 Γ' : Env} {Φ Φ0 Φ1 Φ2 Φ' : Nat → List Addr}
variable {m ms me m1 ma : Md} {eff eff' ea eb ec own : List Nat} {pos : Pos} {F F' : List Addr} {v : V} {d : D} {vs : List V} {ds : List D} {K : PySem.W.Frag} {e c : Expr} {ir : CW.E}

theorem wipeE_idem : wipeE (wipeE Γ own) own = wipeE Γ own := by
  apply List.ext_getElem?
  intro j
  by_cases hm : j ∈ own
  · have e1 : ∀ (Δ : Env), Δ.length = Γ.length → (wipeE Δ own)[j]? = if j < Γ.length then some none else none := fun Δ hd => by
      split
      · cases q : (wipeE Δ own)[j]? with
        | none =>
          have := List.getElem?_eq_none_iff.mp q
          rw [wipeE_len, hd] at this
          omega
        | some o =>
          cases o with
          | none => rfl
          | some d => exact absurd q (wipeE_in hm)
      · exact List.getElem?_eq_none (by rw [wipeE_len, hd]; omega)
    rw [e1 _ (wipeE_len _), e1 Γ rfl]
  · rw [wipeE_out hm]
/-- the cell that is read is not written -/
theorem Res.kept {a : Addr} (I : SI K ks G H σ Γ Φ) (r : Res K ms G H Φ F (.ref a) (.lst ds)) (ht : ms.tmp = false) (off : ms.off eff = true) : ∀ i ∈ eff, a ∉ Φ i := fun i hi ha => by
  have own := r.own
  cases ms with
  | im =>
    obtain ⟨rfl, o⟩ := r
    cases o with
    | frz g _ _ _ => exact g.elim
  | sh =>
    obtain ⟨rfl, o⟩ := r
    cases o with
    | frz g _ _ _ => exact I.gd i a ha g
  | ow => cases ht
  | os => cases ht
  | rd q =>
    have hq : q ∉ eff := by simpa [Md.off] using off
    obtain ⟨o, sub⟩ := r
    cases o with
    | frz g _ _ _ => exact I.gd i a ha g
    | lst _ _ _ _ =>
      have := sub a List.mem_cons_self
      by_cases e : i = q
      · subst e; exact hq hi
      · exact I.dis i q e a ha this
def lcM (me m : Md) : Bool := match me, m with
  | .sh, .sh => true
  | .ow, .ow => true
  | .os, .os => true
  | _, _ => false
theorem comp_end {own : List Nat} {tg : Tg} {c : Option CW.E} {elt : CW.E} {D0 : Addr} {ys : List D} {n : Nat} {Q : VK} {e0 : List Nat}
    (hown : ∀ j ∈ own, (kd ks j).fr = true) (hm : lcM me m = true) (hn : ds.length = n) (hz : n ≤ sizeLine) (hD0 : H1 D0 = none) (I1 : SI X.K ks G1 H1 σ Γ1 Φ1) (s0 : Step e0 G0 H0 Φ0 Γ0 G1 H1 Φ1 Γ1)
    (h : DenR X ks cl E (e0 ++ eff) (RelE X m (e0 ++ eff) H0 Φ0) (.ok (.lst ys) (backE Γ1 Γ2 own)) G1 H1 σ Γ1 Φ1 Q)
    (p : CI X φ ks own tg c elt me eff σ D0 G1 H1 Φ1 Γ1 ds ys Γ2 n H) : Q (.ref D0) H := by
  obtain ⟨G, Γ, Φ, acc, av, F, hc, hlen, I, s, hD, r, org, nG, nΦ, nF, hal⟩ := p.ex
  rw [← hn, List.drop_length, compL] at hc
  cases hc
  have Ib := SI.back I1 I s hown hlen
  have sb := Step.back s hlen
  have hl : acc.reverse.length ≤ sizeLine := by rw [List.length_reverse]; omega
  have sw : Step (e0 ++ eff) G1 H1 Φ1 Γ1 G H Φ (backE Γ1 Γ2 own) := sb.wider sub_r
  have tD0 : Tmp G H Φ [D0] := fun q hq => by
    rw [List.mem_singleton.mp hq]
    exact ⟨nG, nΦ, by rw [hD]; exact fun h => nomatch h⟩
  have orgD : ∀ {C : List Addr}, (∀ q ∈ C, H1 q = none ∨ ∃ j ∈ eff, q ∈ Φ1 j) → ∀ q ∈ C, H0 q = none ∨ ∃ j ∈ e0 ++ eff, q ∈ Φ0 j := fun hC q hq => by
    have : Org .ow eff H1 Φ1 _ := fun _ => hC
    exact Org.back s0 this rfl q hq
  have step2 : ∀ {G' : Addr → Prop} (hG : ∀ q, G' q ↔ (G q ∨ q ∈ [D0])), Step (e0 ++ eff) G1 H1 Φ1 Γ1 G' H Φ (backE Γ1 Γ2 own) := fun hG =>
    ⟨fun q g => (hG q).mpr (.inl (sw.g q g)), fun q g => by
      rcases (hG q).mp g with g | g
      · exact sw.gn q g
      · rw [List.mem_singleton.mp g]
        exact .inr (.inl hD0), sw.kp, sw.fx, sw.fn, sw.ex⟩
  cases me <;> cases m <;> first | (cases hm; done) | skip
  · obtain ⟨rfl, o⟩ := r
    exact h _ H Φ _ (Ib.freeze tD0) (step2 (G' := fun p => G p ∨ p ∈ [D0]) fun q => Iff.rfl) ⟨[], ⟨rfl, .frz (.inr List.mem_cons_self) hD (o.mono fun _ h => .inl h) hl⟩, fun h => nomatch h⟩
  · refine h G H Φ _ Ib sw ⟨D0 :: F, ⟨.lst hD r.1 nF hl, fun q hq => ?_⟩, fun _ q hq => ?_⟩
    · rcases List.mem_cons.mp hq with rfl | hq
      · exact tD0 q List.mem_cons_self
      · exact r.2 q hq
    · rcases List.mem_cons.mp hq with rfl | hq
      · exact .inl (s0.ex q hD0)
      · exact orgD (org rfl) q hq
  · refine h G H Φ _ Ib sw ⟨D0 :: F, ⟨.lst hD r.1 nF hl, fun q hq => ?_, fun h => nomatch h⟩, fun _ q hq => ?_⟩
    · rcases List.mem_cons.mp hq with rfl | hq
      · exact tD0 q List.mem_cons_self
      · exact r.2 q hq
    · rcases List.mem_cons.mp hq with rfl | hq
      · exact .inl (s0.ex q hD0)
      · exact orgD (org rfl) q hq
theorem comp_start {own : List Nat} {tg : Tg} {c : Option CW.E} {elt : CW.E} {D0 : Addr} {ys : List D}
    (hown : ∀ j ∈ own, (kd ks j).fr = true) (hme : me = .sh ∨ me = .ow ∨ me = .os) (hD0 : H1 D0 = none) (I1 : SI X.K ks G1 H1 σ Γ1 Φ1) (hc : compL (compT φ own tg c elt) ds [] (wipeE Γ1 own) = .ok ys Γ2) :
    CI X φ ks own tg c elt me eff σ D0 G1 H1 Φ1 Γ1 ds ys Γ2 0 (upd H1 D0 (.lst [])) := by
  have ex := upd_ex (o := HO.lst []) hD0
  have I1w := I1.wipe hown
  refine ⟨G1, wipeE Γ1 own, Φ1, [], [], [], by rw [List.drop_zero]; exact hc, wipeE_len _, by rw [wipeE_idem]; exact I1w.grow ex, by rw [wipeE_idem]; exact (Step.grow ex).wider (fun _ h => nomatch h), upd_same, ?_, (fun _ _ h => nomatch h), fun g => I1.gl _ g hD0, fun j hj => ?_, (fun h => nomatch h), Nat.le_refl _⟩
  · rcases hme with rfl | rfl | rfl
    · exact ⟨rfl, .nil⟩
    · exact ⟨.nil, Tmp.nil⟩
    · exact ⟨.nil, Tmp.nil⟩
  · obtain ⟨xs, q⟩ := I1.mut j _ hj
    rw [hD0] at q
    cases q
theorem me_of (hm : lcM me m = true) : me = .sh ∨ me = .ow ∨ me = .os := by
  cases me <;> cases m <;> first | (cases hm; done) | exact .inl rfl | exact .inr (.inl rfl) | exact .inr (.inr rfl)
def noSet : Expr → Bool
  | .Set _ _ _ => false
  | _ => true
theorem noSet_ok {e : Expr} (h : noSet e = true) (env : PySem.Env) : ∀ x, foldedSetIterable e env x = pure x := by
  intro x
  cases e <;> first | rfl | cases h

/-- a comprehension: a value, or stored at once -/
def SndLC (X : Cx) (φ : FEnv) (ks : List Kd) (cl : Nat → Addr) (E : L2.St → XK) (e : Expr) (ir : CW.E) (m : Md) (eff : List Nat) : Prop :=
  ∃ t, PE X e t ∧ (∀ (i : Nat) (y : Str) (py spos : Pos), X.N[i]? = some y → X.env.scope.names.lookup y = some .local → swapsWith e (some (.Name y py)) spos.line X.env = pure true → PS X (.Assign [.Name y py] e spos) (tAsg t (gName i))) ∧
    ∀ G H σ Γ Φ (Q : VK), SI X.K ks G H σ Γ Φ → DenR X ks cl E eff (RelE X m eff H Φ) (evE φ ir Γ) G H σ Γ Φ Q → t σ H Q
theorem SndLC.toE (h : SndLC X φ ks cl E e ir m eff) : SndE X φ ks cl E e ir m eff := let ⟨t, p, _, q⟩ := h; ⟨t, p, q⟩
/-- the block's pieces -/
structure Blk (X : Cx) (φ : FEnv) (ks : List Kd) (cl : Nat → Addr) (scope : Scope) (own : List (Str × Nat)) (ms : Md) (tgE : Expr) (tg : Tg) (ifs : List Expr) (c : Option CW.E) (ec : List Nat) (eltE : Expr) (elt : CW.E) (m1 : Md) (ea : List Nat) : Prop where
  ok : BlkOk X.N X.env.scope scope own
  g : ∀ (s : Shared) (H : Hp) (C : Addr) (cl' : List (Str × Addr)) (fp : List Addr), PG (X.blk s H scope (compEnvC scope cl' C X.env) fp) tgE (tDG X ks ms tg)
  t : ∀ (s : Shared) (H : Hp) (C : Addr) (cl' : List (Str × Addr)) (fp : List Addr), PTs (X.blk s H scope (compEnvC scope cl' C X.env) fp) ifs (tdIf φ X ks cl ec c)
  e : ∀ (s : Shared) (H : Hp) (C : Addr) (cl' : List (Str × Addr)) (fp : List Addr), PE (X.blk s H scope (compEnvC scope cl' C X.env) fp) eltE (tD φ X ks cl noE m1 ea elt)
  fr : ∀ j ∈ own.map (·.2), (kd ks j).fr = true
  sl : ∀ j ∈ tg.slots, j ∈ own.map (·.2)
theorem snd_lcl {iter tgE eltE : Expr} {ifs : List Expr} {scope : Scope} {own : List (Str × Nat)} {tg : Tg} {c : Option CW.E} {elt : CW.E} {iter' : CW.E} {es : List Nat}
    (hc : X.calm = true) (hN : X.N.Nodup) (hset : noSet iter = true) (hs : SndE X φ ks cl E iter iter' ms es) (ht : ms.tmp = false) (hoff : ms.off (ec ++ ea) = true)
    (B : Blk X φ ks cl scope own ms tgE tg ifs c ec eltE elt m1 ea) (hle : m1.le me = true) (hm : lcM me m = true) :
    SndLC X φ ks cl E (.ListComp eltE [⟨tgE, iter, ifs, 0⟩] scope pos) (.lcl false (own.map (·.2)) tg iter' c elt) m (es ++ (ec ++ ea)) := by
  obtain ⟨t, p, q⟩ := hs
  refine ⟨_, pe_lc hc hN (pi_list p) B.ok B.g B.t B.e (noSet_ok hset _), (fun i y py spos h1 h2 h3 => ps_setLc hc hN h1 h2 h3 (pi_list p) B.ok B.g B.t B.e (noSet_ok hset _)), fun G H σ Γ Φ Q I h => ?_⟩
  simp only [evE] at h
  refine q G H σ Γ Φ _ I (h.seq sub_l fun x Γ1 G1 H1 Φ1 v I1 s1 r1 h1 => ?_)
  obtain ⟨F, r1, _⟩ := r1
  cases x <;> first | exact h1.elim | skip
  rename_i ds
  obtain ⟨a, us, F', rfl, ha, o1, f1, l1⟩ := r1.own.seq
  simp only [itemsOf, ofo_some, bind_ok] at h1
  have hT := compL_ok (T := compT φ (own.map (·.2)) tg c elt) (fun d Γ k Γ' => compT_ne d Γ k Γ') (ds := ds) (acc := []) (Γ := wipeE Γ1 (own.map (·.2)))
  rcases hT with ⟨ys, Γ2, hT⟩ | hT
  · have h2 : DenR X ks cl E (es ++ (ec ++ ea)) (RelE X m (es ++ (ec ++ ea)) H Φ) (.ok (.lst ys) (backE Γ1 Γ2 (own.map (·.2)))) G1 H1 σ Γ1 Φ1 Q := by
      have := h1
      rw [show compL (fun d Γ => noExc ((R.ofo (Tg.bind tg d (wipeE Γ (own.map (·.2)))) Γ).bind fun Γ _ => (evC φ c Γ).bind fun k Γ => if k then (evE φ elt Γ).bind fun y Γ => .ok (some y) Γ else .ok none Γ)) ds [] (wipeE Γ1 (own.map (·.2))) = .ok ys Γ2 from hT] at this
      exact this
    have I1w := I1.wipe B.fr
    have kept : ∀ {H2 : Hp} {i : Nat} {D0 : Addr}, CI X φ ks (own.map (·.2)) tg c elt me (ec ++ ea) σ D0 G1 H1 Φ1 Γ1 ds ys Γ2 i H2 → H2 a = some (.lst us) := fun p => by
      obtain ⟨G, Γ, Φ, acc, av, F, _, _, _, s, _⟩ := p.ex
      exact s.kp a _ ha (Res.kept I1w r1 ht hoff)
    refine ⟨a, rfl, ⟨us, SqL.of ha⟩, fun D0 hD0 => lc_list (K := X.K) (a := a) (xs := us) (fun i H => CI X φ ks (own.map (·.2)) tg c elt me (ec ++ ea) σ D0 G1 H1 Φ1 Γ1 ds ys Γ2 i H) ?_ (fun i H2 _ p => SqL.of (kept p)) (fun i x H2 hx p => ?_) (fun H2 p => ?_)⟩
    · exact comp_start B.fr (me_of hm) hD0 I1 hT
    · have hi : i < us.length := (List.getElem?_eq_some_iff.mp hx).1
      have hid : i < ds.length := by rw [← o1.len]; exact hi
      refine comp_turn B.fr B.sl hle (d := ds[i]) (List.getElem?_eq_getElem hid) (by omega) (fun G2 H3 Φ2 Γ3 I2 s2 => ?_) I1w hD0 p
      have r2 := r1.step I1w s2 hoff
      obtain ⟨u, F2, it, q2⟩ := r2.item ht (ds := ds) rfl (List.getElem?_eq_getElem hid)
      obtain ⟨p', us', ep, hh, e3⟩ := it
      cases ep
      have ha2 : H3 a = some (.lst us) := s2.kp a _ ha (Res.kept I1w r1 ht hoff)
      rcases hh with hh | hh <;> rw [ha2] at hh <;> cases hh
      rw [hx] at e3
      cases e3
      exact ⟨F2, q2⟩
    · exact comp_end B.fr hm o1.len.symm (by rw [o1.len]; exact l1) hD0 I1 s1 h2 p
  · exfalso
    have := h1
    rw [show compL (fun d Γ => noExc ((R.ofo (Tg.bind tg d (wipeE Γ (own.map (·.2)))) Γ).bind fun Γ _ => (evC φ c Γ).bind fun k Γ => if k then (evE φ elt Γ).bind fun y Γ => .ok (some y) Γ else .ok none Γ)) ds [] (wipeE Γ1 (own.map (·.2))) = .bad from hT] at this
    exact this
end
end CW
namespace CW
open PySem L2
section
variable {X : Cx} {φ : FEnv} {ks : List Kd} {cl : Nat → Addr} {E : L2.St → XK} {G G1 G2 G' : Addr → Prop} {H H0 H' H1 H2 : Hp} {σ σ1 σ2 : L2.St} {Γ Γ1 Γ2 Γ' : Env} {Φ Φ0 Φ1 Φ2 Φ' : Nat → List Addr}
variable {m ms me m1 ma : Md} {eff eff' ea eb ec own : List Nat} {pos : Pos} {F F' : List Addr} {v : V} {d : D} {vs : List V} {ds : List D} {K : PySem.W.Frag} {e c : Expr} {ir : CW.E}
theorem snd_lct {iter tgE eltE : Expr} {ifs : List Expr} {scope : Scope} {own : List (Str × Nat)} {tg : Tg} {c : Option CW.E} {elt : CW.E} {iter' : CW.E} {es : List Nat}
    (hc : X.calm = true) (hN : X.N.Nodup) (hset : noSet iter = true) (hs : SndE X φ ks cl E iter iter' ms es) (ht : ms.tmp = false) (hoff : ms.off (ec ++ ea) = true)
    (B : Blk X φ ks cl scope own ms tgE tg ifs c ec eltE elt m1 ea) (hle : m1.le me = true) (hm : lcM me m = true) :
    SndLC X φ ks cl E (.ListComp eltE [⟨tgE, iter, ifs, 0⟩] scope pos) (.lcl true (own.map (·.2)) tg iter' c elt) m (es ++ (ec ++ ea)) := by
  obtain ⟨t, p, q⟩ := hs
  refine ⟨_, pe_lc hc hN (pi_tup p) B.ok B.g B.t B.e (noSet_ok hset _), (fun i y py spos h1 h2 h3 => ps_setLc hc hN h1 h2 h3 (pi_tup p) B.ok B.g B.t B.e (noSet_ok hset _)), fun G H σ Γ Φ Q I h => ?_⟩
  simp only [evE] at h
  refine q G H σ Γ Φ _ I (h.seq sub_l fun x Γ1 G1 H1 Φ1 v I1 s1 r1 h1 => ?_)
  obtain ⟨F, r1, _⟩ := r1
  cases x <;> first | exact h1.elim | skip
  rename_i ds
  obtain ⟨a, us, rfl, ha, o1, l1⟩ := r1.own.tups
  simp only [itemsOf, ofo_some, bind_ok] at h1
  have hT := compL_ok (T := compT φ (own.map (·.2)) tg c elt) (fun d Γ k Γ' => compT_ne d Γ k Γ') (ds := ds) (acc := []) (Γ := wipeE Γ1 (own.map (·.2)))
  rcases hT with ⟨ys, Γ2, hT⟩ | hT
  · have h2 : DenR X ks cl E (es ++ (ec ++ ea)) (RelE X m (es ++ (ec ++ ea)) H Φ) (.ok (.lst ys) (backE Γ1 Γ2 (own.map (·.2)))) G1 H1 σ Γ1 Φ1 Q := by
      have := h1
      rw [show compL (fun d Γ => noExc ((R.ofo (Tg.bind tg d (wipeE Γ (own.map (·.2)))) Γ).bind fun Γ _ => (evC φ c Γ).bind fun k Γ => if k then (evE φ elt Γ).bind fun y Γ => .ok (some y) Γ else .ok none Γ)) ds [] (wipeE Γ1 (own.map (·.2))) = .ok ys Γ2 from hT] at this
      exact this
    have I1w := I1.wipe B.fr
    have cell : ∀ {G2 H2 Φ2 Γ2}, Step (ec ++ ea) G1 H1 Φ1 (wipeE Γ1 (own.map (·.2))) G2 H2 Φ2 Γ2 → H2 a = some (.tup us) := fun s => s.kp a _ ha fun i hi hp => by
      obtain ⟨xs, z⟩ := I1.mut i a hp
      rw [ha] at z
      exact (xs.nt (Option.some.inj z)).elim
    have kept : ∀ {H2 : Hp} {i : Nat} {D0 : Addr}, CI X φ ks (own.map (·.2)) tg c elt me (ec ++ ea) σ D0 G1 H1 Φ1 Γ1 ds ys Γ2 i H2 → H2 a = some (.tup us) := fun p => by
      obtain ⟨G, Γ, Φ, acc, av, F, _, _, _, s, _⟩ := p.ex
      exact cell s
    refine ⟨a, rfl, ⟨us, SqT.of ha⟩, fun D0 hD0 => lc_tup (K := X.K) (a := a) (xs := us) (fun i H => CI X φ ks (own.map (·.2)) tg c elt me (ec ++ ea) σ D0 G1 H1 Φ1 Γ1 ds ys Γ2 i H) ?_ (fun i H2 _ p => SqT.of (kept p)) (fun i x H2 hx p => ?_) (fun H2 p => ?_)⟩
    · exact comp_start B.fr (me_of hm) hD0 I1 hT
    · have hi : i < us.length := (List.getElem?_eq_some_iff.mp hx).1
      have hid : i < ds.length := by rw [← o1.len]; exact hi
      refine comp_turn B.fr B.sl hle (d := ds[i]) (List.getElem?_eq_getElem hid) (by omega) (fun G2 H3 Φ2 Γ3 I2 s2 => ?_) I1w hD0 p
      have r2 := r1.step I1w s2 hoff
      obtain ⟨u, F2, it, q2⟩ := r2.item ht (ds := ds) rfl (List.getElem?_eq_getElem hid)
      obtain ⟨p', us', ep, hh, e3⟩ := it
      cases ep
      have ha2 := cell s2
      rcases hh with hh | hh <;> rw [ha2] at hh <;> cases hh
      rw [hx] at e3
      cases e3
      exact ⟨F2, q2⟩
    · exact comp_end B.fr hm o1.len.symm (by rw [o1.len]; exact l1) hD0 I1 s1 h2 p
  · exfalso
    have := h1
    rw [show compL (fun d Γ => noExc ((R.ofo (Tg.bind tg d (wipeE Γ (own.map (·.2)))) Γ).bind fun Γ _ => (evC φ c Γ).bind fun k Γ => if k then (evE φ elt Γ).bind fun y Γ => .ok (some y) Γ else .ok none Γ)) ds [] (wipeE Γ1 (own.map (·.2))) = .bad from hT] at this
    exact this
end
end CW
/-! Ranges. -/
namespace CW
open PySem L2
section
variable {X : Cx} {φ : FEnv} {ks : List Kd} {cl : Nat → Addr} {E : L2.St → XK} {G G1 G2 G' : Addr → Prop} {H H0 H' H1 H2 : Hp} {σ σ1 σ2 : L2.St} {Γ Γ1 Γ2 Γ' : Env} {Φ Φ0 Φ1 Φ2 Φ' : Nat → List Addr}
variable {m me m1 ma mb : Md} {eff eff' ea eb ec own : List Nat} {pos : Pos} {F F' : List Addr} {v : V} {d : D} {vs : List V} {ds : List D} {K : PySem.W.Frag} {a b e c : Expr} {a' b' ir : CW.E} {irs : List CW.E} {ms : List Md}

def SndR (X : Cx) (φ : FEnv) (ks : List Kd) (cl : Nat → Addr) (E : L2.St → XK) (iter : Expr) (irs : List CW.E) (eff : List Nat) : Prop :=
  ∃ wi, (∀ tg, PI X tg iter wi) ∧ ∀ G H σ Γ Φ (R0 : It → Hp → Prop), SI X.K ks G H σ Γ Φ → DenR X ks cl E eff (fun _ _ _ (p : Int × Nat) (J : It) => J = Itr p.1 p.2) ((evEs φ irs Γ).bind fun ds Γ => R.ofo (rngD ds) Γ) G H σ Γ Φ R0 → wi σ H R0
theorem sizes62 : (sizeLine : Int) < 2 ^ 62 := by decide
theorem rngD_le {p : Int × Nat} (h : rngD ds = some p) : p.2 ≤ sizeLine := by
  rw [rngD_eq] at h
  unfold rngD0 at h
  split at h
  · split at h
    · cases h
      rename_i hb
      omega
    · cases h
  · split at h
    · cases h
      rename_i hb
      show (_ : Int).toNat ≤ sizeLine
      omega
    · cases h
  · cases h
theorem ResA.len : ∀ {ms : List Md} {ds : List D} {vs : List V}, ResA K G H Φ ms ds vs → ms.length = ds.length
  | _, _, _, .nil => rfl
  | _, _, _, .cons _ t => congrArg (· + 1) t.len
theorem sr_1 {p : Pos} (hg : Gl X "range") (hn : X.mg "range" = none) (hs : noStar a = true) (hl : ms.length = 1) (ha : SndA X φ ks cl E [a] irs ms eff) : SndR X φ ks cl E (.Call (.Name "range" p) [a] [] pos) irs eff := by
  obtain ⟨t, pa, qa⟩ := ha
  refine ⟨_, fun tg => pi_range1 hg hn pa (by rw [noStar_ok hs]; rfl), fun G H σ Γ Φ R0 I h => ?_⟩
  refine qa G H σ Γ Φ _ I (h.seq sub_all fun ds Γ1 G1 H1 Φ1 vs I1 s1 r1 h1 => ?_)
  obtain ⟨p, ep, k⟩ := h1.fin (α := Unit) I1
  have oo := r1.owns
  have hl2 := r1.len
  rw [rngD_eq] at ep
  unfold rngD0 at ep
  split at ep
  · rename_i n
    split at ep
    · rename_i hb
      cases ep
      obtain ⟨v, F, rfl, o⟩ := owns1 oo
      cases o
      have := sizes62
      exact ⟨n, rfl, by omega, by omega, k H1 _ (fun _ _ h => h) rfl⟩
    · cases ep
  · rw [hl] at hl2
    cases hl2
  · cases ep
theorem sr_2 {p : Pos} (hg : Gl X "range") (hn : X.mg "range" = none) (hs : noStar a = true) (hs2 : noStar b = true) (hl : ms.length = 2) (ha : SndA X φ ks cl E [a, b] irs ms eff) : SndR X φ ks cl E (.Call (.Name "range" p) [a, b] [] pos) irs eff := by
  obtain ⟨t, pa, qa⟩ := ha
  refine ⟨_, fun tg => pi_range2 hg hn pa (by rw [noStar_ok hs, noStar_ok hs2]; rfl) (by rw [noStar_ok hs2]; rfl), fun G H σ Γ Φ R0 I h => ?_⟩
  refine qa G H σ Γ Φ _ I (h.seq sub_all fun ds Γ1 G1 H1 Φ1 vs I1 s1 r1 h1 => ?_)
  obtain ⟨p, ep, k⟩ := h1.fin (α := Unit) I1
  have oo := r1.owns
  have hl2 := r1.len
  rw [rngD_eq] at ep
  unfold rngD0 at ep
  split at ep
  · rw [hl] at hl2
    cases hl2
  · rename_i i j
    split at ep
    · rename_i hb
      cases ep
      obtain ⟨v, F, w, F', rfl, o, o'⟩ := owns2 oo
      cases o
      cases o'
      exact ⟨i, j, rfl, ⟨hb.1, hb.2.1, hb.2.2.1, hb.2.2.2.1⟩, k H1 _ (fun _ _ h => h) rfl⟩
    · cases ep
  · cases ep
theorem bind_assoc {α β γ : Type} (r : R α) (f : α → Env → R β) (g : β → Env → R γ) : (r.bind f).bind g = r.bind fun a Γ => (f a Γ).bind g := by cases r <;> rfl
theorem rngL_get {a : Int} {n i : Nat} (h : i < n) : (rngL a n)[i]? = some (.int (a + i)) := by
  unfold rngL
  rw [List.getElem?_map, List.getElem?_range h]
  rfl
theorem rngL_len {a : Int} {n : Nat} : (rngL a n).length = n := by unfold rngL; rw [List.length_map, List.length_range]
theorem snd_lcr {iter tgE eltE : Expr} {ifs : List Expr} {scope : Scope} {own : List (Str × Nat)} {tg : Tg} {c : Option CW.E} {elt : CW.E} {es : List Nat}
    (hc : X.calm = true) (hN : X.N.Nodup) (hset : noSet iter = true) (hs : SndR X φ ks cl E iter irs es)
    (B : Blk X φ ks cl scope own .im tgE tg ifs c ec eltE elt m1 ea) (hle : m1.le me = true) (hm : lcM me m = true) :
    SndLC X φ ks cl E (.ListComp eltE [⟨tgE, iter, ifs, 0⟩] scope pos) (.lcr (own.map (·.2)) tg irs c elt) m (es ++ (ec ++ ea)) := by
  obtain ⟨wi, p, q⟩ := hs
  refine ⟨_, pe_lc hc hN (p tgE) B.ok B.g B.t B.e (noSet_ok hset _), (fun i y py spos h1 h2 h3 => ps_setLc hc hN h1 h2 h3 (p tgE) B.ok B.g B.t B.e (noSet_ok hset _)), fun G H σ Γ Φ Q I h => ?_⟩
  simp only [evE] at h
  have h0 : DenR X ks cl E (es ++ (ec ++ ea)) (RelE X m (es ++ (ec ++ ea)) H Φ) (((evEs φ irs Γ).bind fun ds Γ => R.ofo (rngD ds) Γ).bind fun p Γ1 => (compL (compT φ (own.map (·.2)) tg c elt) (rngL p.1 p.2) [] (wipeE Γ1 (own.map (·.2)))).bind fun ys Γ2 => .ok (.lst ys) (backE Γ1 Γ2 (own.map (·.2)))) G H σ Γ Φ Q := by
    rw [bind_assoc]
    exact h
  cases hev : (evEs φ irs Γ).bind fun ds Γ => R.ofo (rngD ds) Γ with
  | bad =>
    rw [hev] at h0
    exact h0.elim
  | exc k Γ1 =>
    refine q G H σ Γ Φ _ I ?_
    rw [hev] at h0 ⊢
    exact fun G1 H1 Φ1 I1 s1 => h0 G1 H1 Φ1 I1 (s1.wider sub_l)
  | ok pr Γ1 =>
    have hbound : pr.2 ≤ sizeLine := by
      cases hes : evEs φ irs Γ with
      | ok ds Γ' =>
        rw [hes, bind_ok] at hev
        cases hr : rngD ds with
        | none =>
          rw [hr] at hev
          cases hev
        | some p' =>
          rw [hr] at hev
          cases hev
          exact rngD_le hr
      | _ =>
        rw [hes] at hev
        cases hev
    refine q G H σ Γ Φ _ I ?_
    rw [hev]
    rw [hev, bind_ok] at h0
    intro G1 H1 Φ1 J I1 s1 eJ
    subst eJ
    have tr : ∀ {G' H' Φ' Γ'}, Step (es ++ (ec ++ ea)) G1 H1 Φ1 Γ1 G' H' Φ' Γ' → Step (es ++ (ec ++ ea)) G H Φ Γ G' H' Φ' Γ' := fun s2 => (s1.trans s2).wider fun i hi => by
      rcases List.mem_append.mp hi with hi | hi
      · exact sub_l i hi
      · exact hi
    have hT := compL_ok (T := compT φ (own.map (·.2)) tg c elt) (fun d Γ k Γ' => compT_ne d Γ k Γ') (ds := rngL pr.1 pr.2) (acc := []) (Γ := wipeE Γ1 (own.map (·.2)))
    rcases hT with ⟨ys, Γ2, hT⟩ | hT
    · rw [hT, bind_ok] at h0
      have h2 : DenR X ks cl E (es ++ (ec ++ ea)) (RelE X m (es ++ (ec ++ ea)) H Φ) (.ok (.lst ys) (backE Γ1 Γ2 (own.map (·.2)))) G1 H1 σ Γ1 Φ1 Q := fun G' H' Φ' v I' s' r' => h0 G' H' Φ' v I' (tr s') r'
      have I1w := I1.wipe B.fr
      refine fun D0 hD0 => lc_range (lo := pr.1) (n := pr.2) (fun i H => CI X φ ks (own.map (·.2)) tg c elt me (ec ++ ea) σ D0 G1 H1 Φ1 Γ1 (rngL pr.1 pr.2) ys Γ2 i H) (comp_start B.fr (me_of hm) hD0 I1 hT) (fun i H2 hi p => ?_) (fun H2 p => comp_end B.fr hm rngL_len hbound hD0 I1 s1 h2 p)
      exact comp_turn B.fr B.sl hle (rngL_get hi) (by omega) (fun G2 H3 Φ2 Γ3 I2 s2 => ⟨[], rfl, .int⟩) I1w hD0 p
    · rw [hT] at h0
      exact h0.elim
end
end CW
/-! Calls of defs. -/
namespace CW
open PySem L2
structure FSig where
  pk : List Kd
  rk : Kd
def Kd.md : Kd → Md
  | .im => .im
  | .sh => .sh
  | .ow => .ow
  | .os => .os
def ioIx (pk : List Kd) : List Nat := (List.range pk.length).filter fun i => kd pk i == .ow
/-- what a def promises, by what it computes -/
def spOf (K : PySem.W.Frag) (cl : Nat → Addr) (sg : FSig) (den : List D → RF) : Sp := fun vs H Q E =>
  ∃ G ds Φ, vs.length = sg.pk.length ∧ SI K sg.pk G H (vs.map some) (ds.map some) Φ ∧
    match den ds with
    | .ok d outs => outs.length = ds.length → ∀ G' H' Φ' F v, SI K sg.pk G' H' (vs.map some) (outs.map some) Φ' → Step (ioIx sg.pk) G H Φ (ds.map some) G' H' Φ' (outs.map some) → Res K sg.rk.md G' H' Φ' F v d → Org sg.rk.md (ioIx sg.pk) H Φ F → Q v H'
    | .exc c outs => outs.length = ds.length → ∀ G' H' Φ', SI K sg.pk G' H' (vs.map some) (outs.map some) Φ' → Step (ioIx sg.pk) G H Φ (ds.map some) G' H' Φ' (outs.map some) → E (.ref (cl c)) none H'
    | .bad => False
/-- an argument: a value; a name whose value the def changes -/
inductive Arg where
  | e (m : Md)
  | io (x : Nat)
  | bx (r : Nat)
/-- frozen, once the cells of r are -/
def Rg (K : PySem.W.Frag) (r : Nat) (G : Addr → Prop) (H : Hp) (Φ : Nat → List Addr) (v : V) (d : D) : Prop := Own K (fun p => G p ∨ p ∈ Φ r) H [] v d
inductive ResC (K : PySem.W.Frag) (G : Addr → Prop) (H : Hp) (σ : L2.St) (Γ : Env) (Φ : Nat → List Addr) : List Arg → List D → List V → Prop
  | nil : ResC K G H σ Γ Φ [] [] []
  | e {m as F d ds v vs} : Res K m G H Φ F v d → ResC K G H σ Γ Φ as ds vs → ResC K G H σ Γ Φ (.e m :: as) (d :: ds) (v :: vs)
  | io {x as d ds v vs} : σ[x]? = some (some v) → Γ[x]? = some (some d) → ResC K G H σ Γ Φ as ds vs → ResC K G H σ Γ Φ (.io x :: as) (d :: ds) (v :: vs)
  | bx {r as d ds v vs} : Rg K r G H Φ v d → ResC K G H σ Γ Φ as ds vs → ResC K G H σ Γ Φ (.bx r :: as) (d :: ds) (v :: vs)
def Arg.off (a : Arg) (eff : List Nat) : Bool := match a with
  | .e m => m.off eff
  | .io x => !eff.contains x
  | .bx r => !eff.contains r
def SndC (X : Cx) (φ : FEnv) (ks : List Kd) (cl : Nat → Addr) (E : L2.St → XK) (es : List Expr) (irs : List CW.E) (as : List Arg) (eff : List Nat) : Prop :=
  ∃ t, PA X es t ∧ ∀ G H σ Γ Φ (Q : List V → Hp → Prop), SI X.K ks G H σ Γ Φ → DenR X ks cl E eff (fun G H Φ (p : List D × Env) vs => ResC X.K G H σ p.2 Φ as p.1 vs) ((evEs φ irs Γ).bind fun ds Γ => .ok (ds, Γ) Γ) G H σ Γ Φ Q → t σ H Q
section
variable {X : Cx} {φ : FEnv} {ks : List Kd} {cl : Nat → Addr} {E : L2.St → XK} {G G1 G2 G' : Addr → Prop} {H H0 H' H1 H2 : Hp} {σ σ1 σ2 : L2.St} {Γ Γ1 Γ2 Γ' : Env} {Φ Φ0 Φ1 Φ2 Φ' : Nat → List Addr}
variable {m me m1 ma mb : Md} {eff eff' ea eb ec own : List Nat} {pos : Pos} {F F' : List Addr} {v : V} {d : D} {vs : List V} {ds : List D} {K : PySem.W.Frag} {a b e c : Expr} {a' b' ir : CW.E} {irs : List CW.E} {ms : List Md} {as : List Arg} {es : List Expr}
theorem Rg.step {q : Nat} (I : SI K ks G H σ Γ Φ) (r : Rg K q G H Φ v d) (s : Step eff G H Φ Γ G1 H1 Φ1 Γ1) (hq : q ∉ eff) : Rg K q G1 H1 Φ1 v d := by
  refine Own.keep (W := fun p => ∃ i ∈ eff, p ∈ Φ i) (fun p o e n => s.kp p o e fun i hi q => n ⟨i, hi, q⟩) (I.wl eff) (fun p g ⟨i, hi, h⟩ => ?_) (fun p g => ?_) r (fun _ h => nomatch h)
  · rcases g with g | g
    · exact I.gd i p h g
    · by_cases e : i = q
      · subst e; exact hq hi
      · exact I.dis i q e p h g
  · rcases g with g | g
    · exact .inl (s.g p g)
    · refine .inr ?_
      rw [(s.fx q hq).1]
      exact g
theorem ResC.step (I : SI K ks G H σ Γ Φ) (s : Step eff G H Φ Γ G1 H1 Φ1 Γ1) : ∀ {as : List Arg} {ds : List D} {vs : List V}, ResC K G H σ Γ Φ as ds vs → (∀ a ∈ as, a.off eff = true) → ResC K G1 H1 σ Γ1 Φ1 as ds vs
  | _, _, _, .nil, _ => .nil
  | _, _, _, .e r t, h => .e (r.step I s (h _ List.mem_cons_self)) (ResC.step I s t fun m hm => h m (List.mem_cons_of_mem _ hm))
  | _, _, _, .io (x := x) h1 h2 t, h => .io h1 (by
      have hx : x ∉ eff := by simpa [Arg.off] using h _ List.mem_cons_self
      rw [(s.fx x hx).2]
      exact h2) (ResC.step I s t fun m hm => h m (List.mem_cons_of_mem _ hm))
  | _, _, _, .bx r t, h => .bx (r.step I s (by simpa [Arg.off] using h _ List.mem_cons_self)) (ResC.step I s t fun m hm => h m (List.mem_cons_of_mem _ hm))
theorem sc_nil : SndC X φ ks cl E [] [] [] [] := ⟨_, pa_nil, fun G H σ Γ Φ Q I h => by
  simp only [evEs, bind_ok] at h
  exact h.here I .nil⟩
theorem sc_cons (hs : noStar e = true) (he : SndE X φ ks cl E e ir ma ea) (off : ma.off eb = true) (ht : SndC X φ ks cl E es irs as eb) : SndC X φ ks cl E (e :: es) (ir :: irs) (.e ma :: as) (ea ++ eb) := by
  obtain ⟨te, pe, qe⟩ := he
  obtain ⟨ta, pa, qa⟩ := ht
  refine ⟨_, pa_cons pe pa (noStar_ok hs _), fun G H σ Γ Φ Q I h => ?_⟩
  simp only [evEs, bind_assoc, bind_ok] at h
  refine qe G H σ Γ Φ _ I (h.seq sub_l fun d Γ1 G1 H1 Φ1 v I1 s1 r1 h1 => ?_)
  refine qa G1 H1 σ Γ1 Φ1 _ I1 ?_
  obtain ⟨F, r1, _⟩ := r1
  cases hev : evEs φ irs Γ1 with
  | bad =>
    rw [hev] at h1
    exact h1.elim
  | exc k Γ2 =>
    rw [hev] at h1
    exact fun G2 H2 Φ2 I2 s2 => h1 G2 H2 Φ2 I2 (s2.wider sub_r)
  | ok ds Γ2 =>
    rw [hev] at h1
    exact fun G2 H2 Φ2 vs I2 s2 r2 => h1 G2 H2 Φ2 (v :: vs) I2 (s2.wider sub_r) (.e (r1.step I1 s2 off) r2)
theorem sc_io {x : Str} {i : Nat} {p : Pos} (hN : X.N[i]? = some x) (hv : Vis X.env.scope x) (h1 : (x == ("__debug__" : Str)) = false) (h2 : (x == ("__classdict__" : Str)) = false) (hoff : i ∉ eb) (ht : SndC X φ ks cl E es irs as eb) :
    SndC X φ ks cl E (.Name x p :: es) (.var i :: irs) (.io i :: as) eb := by
  obtain ⟨ta, pa, qa⟩ := ht
  refine ⟨_, pa_cons (pe_var hN hv h1 h2) pa (noStar_ok rfl _), fun G H σ Γ Φ Q I h => ?_⟩
  simp only [evEs, evE, bind_assoc] at h
  cases hg : get Γ i with
  | none =>
    rw [hg] at h
    exact h.elim
  | some d =>
    rw [hg, ofo_some, bind_ok] at h
    have g := gets hg
    obtain ⟨v, e1, o⟩ := I.slot i d g
    refine ⟨v, e1, qa G H σ Γ Φ _ I ?_⟩
    cases hev : evEs φ irs Γ with
    | bad =>
      rw [hev] at h
      exact h.elim
    | exc k Γ2 =>
      rw [hev] at h
      exact h
    | ok ds Γ2 =>
      rw [hev] at h
      exact fun G2 H2 Φ2 vs I2 s2 r2 => h G2 H2 Φ2 (v :: vs) I2 s2 (.io e1 (by
        show Γ2[i]? = some (some d)
        rw [(s2.fx i hoff).2]
        exact g) r2)

theorem sc_bx {x : Str} {i : Nat} {k : Pos} {p : Pos} (hki : kd ks i = .ow) (hN : X.N[i]? = some x) (hv : Vis X.env.scope x) (h1 : (x == ("__debug__" : Str)) = false) (h2 : (x == ("__classdict__" : Str)) = false) (hoff : i ∉ eb) (ht : SndC X φ ks cl E es irs as eb) :
    SndC X φ ks cl E (.List [.Name x p] k :: es) (.lst [.var i] :: irs) (.bx i :: as) eb := by
  obtain ⟨ta, pa, qa⟩ := ht
  refine ⟨_, pa_cons (pe_lst (pa_cons (pe_var hN hv h1 h2) pa_nil (noStar_ok rfl _))) pa (noStar_ok rfl _), fun G H σ Γ Φ Q I h => ?_⟩
  simp only [evEs, evE, bind_assoc] at h
  cases hg : get Γ i with
  | none =>
    rw [hg] at h
    exact h.elim
  | some d =>
    simp only [hg, ofo_some, bind_ok] at h
    have g := gets hg
    obtain ⟨v, e1, o⟩ := I.slot i d g
    rw [hki] at o
    refine ⟨v, e1, ?_⟩
    refine ⟨by show 1 ≤ sizeLine; decide, fun q hq => ?_⟩
    have ex := upd_ex (o := HO.lst [v]) hq
    have I1 := (I.grow ex).freeze (F := [q]) (fresh_tmp I hq)
    have s1 : Step [] G H Φ Γ (fun p => G p ∨ p ∈ [q]) (upd H q (.lst [v])) Φ Γ := ⟨fun _ h => .inl h, fun p h => h.elim .inl fun h => .inr (.inl (by rw [List.mem_singleton.mp h]; exact hq)), fun p o e _ => ex p o e, fun _ _ => ⟨rfl, rfl⟩, (fun _ h => nomatch h), fun p h => by
      cases z : H p with
      | none => rfl
      | some o =>
        rw [ex p o z] at h
        cases h⟩
    refine qa _ _ σ Γ Φ _ I1 ?_
    have rg : Rg X.K i (fun p => G p ∨ p ∈ [q]) (upd H q (.lst [v])) Φ (.ref q) (.lst [d]) :=
      .frz (.inl (.inr (List.mem_singleton.mpr rfl))) upd_same (.cons0 ((o.ex ex).freeze (fun _ h => h.elim) fun p hp => .inr hp) .nil) (by show 1 ≤ sizeLine; decide)
    cases hev : evEs φ irs Γ with
    | bad =>
      rw [hev] at h
      exact h.elim
    | exc k Γ2 =>
      rw [hev] at h
      exact fun G2 H2 Φ2 I2 s2 => h G2 H2 Φ2 I2 ((s1.trans s2).wider fun j hj => by simpa using hj)
    | ok ds Γ2 =>
      rw [hev] at h
      exact fun G2 H2 Φ2 vs I2 s2 r2 => h G2 H2 Φ2 (.ref q :: vs) I2 ((s1.trans s2).wider fun j hj => by simpa using hj) (.bx (rg.step I1 s2 hoff) r2)

/-! ### the callee's state -/
/-- whether an argument fits a parameter; z: its def hands back nothing frozen, so that one may lend -/
def Arg.fits (z : Bool) (k : Kd) : Arg → Bool
  | .e .im => k == .im || k == .sh
  | .e .sh => k == .sh
  | .e (.rd _) => k == .sh && z
  | .io _ => k == .ow
  | .bx _ => k == .sh && z
  | _ => false
def Arg.lent : Arg → Option Nat
  | .e (.rd r) => some r
  | .bx r => some r
  | _ => none
def Arg.ios : Arg → Option Nat
  | .io x => some x
  | _ => none
theorem ResC.get : ∀ {as : List Arg} {ds : List D} {vs : List V} {i : Nat} {d : D}, CW.ResC K G H σ Γ Φ as ds vs → ds[i]? = some d → ∃ a v, as[i]? = some a ∧ vs[i]? = some v ∧ ((∃ m F, a = .e m ∧ Res K m G H Φ F v d) ∨ (∃ x, a = .io x ∧ σ[x]? = some (some v) ∧ Γ[x]? = some (some d)) ∨ ∃ r, a = .bx r ∧ Rg K r G H Φ v d)
  | _, _, _, _, _, .nil, ee => by simp at ee
  | _, _, _, 0, d, .e r t, ee => by
    cases ee
    exact ⟨_, _, rfl, rfl, .inl ⟨_, _, rfl, r⟩⟩
  | _, _, _, 0, d, .io h1 h2 t, ee => by
    cases ee
    exact ⟨_, _, rfl, rfl, .inr (.inl ⟨_, rfl, h1, h2⟩)⟩
  | _, _, _, 0, d, .bx r t, ee => by
    cases ee
    exact ⟨_, _, rfl, rfl, .inr (.inr ⟨_, rfl, r⟩)⟩
  | _, _, _, i + 1, d, .bx r t, ee => by
    obtain ⟨a, v, e1, e2, h⟩ := ResC.get t (i := i) (d := d) (by simpa using ee)
    exact ⟨a, v, by simpa using e1, by simpa using e2, h⟩
  | _, _, _, i + 1, d, .e r t, ee => by
    obtain ⟨a, v, e1, e2, h⟩ := ResC.get t (i := i) (d := d) (by simpa using ee)
    exact ⟨a, v, by simpa using e1, by simpa using e2, h⟩
  | _, _, _, i + 1, d, .io h1 h2 t, ee => by
    obtain ⟨a, v, e1, e2, h⟩ := ResC.get t (i := i) (d := d) (by simpa using ee)
    exact ⟨a, v, by simpa using e1, by simpa using e2, h⟩
theorem ResC.lens : ∀ {as : List Arg} {ds : List D} {vs : List V}, ResC K G H σ Γ Φ as ds vs → as.length = ds.length ∧ vs.length = ds.length
  | _, _, _, .nil => ⟨rfl, rfl⟩
  | _, _, _, .e _ t => by
    obtain ⟨a, b⟩ := t.lens
    exact ⟨by simp [a], by simp [b]⟩
  | _, _, _, .io _ _ t => by
    obtain ⟨a, b⟩ := t.lens
    exact ⟨by simp [a], by simp [b]⟩
  | _, _, _, .bx _ t => by
    obtain ⟨a, b⟩ := t.lens
    exact ⟨by simp [a], by simp [b]⟩
/-- what may not change while the def runs -/
def Gc (G : Addr → Prop) (Φ : Nat → List Addr) (as : List Arg) : Addr → Prop := fun p => G p ∨ ∃ a ∈ as, ∃ r, a.lent = some r ∧ p ∈ Φ r
def Φc (Φ : Nat → List Addr) (as : List Arg) : Nat → List Addr := fun i => match (as[i]?).bind Arg.ios with
  | some x => Φ x
  | none => []
structure FitOk (z : Bool) (pk : List Kd) (as : List Arg) : Prop where
  len : as.length = pk.length
  fit : ∀ (i : Nat) a, as[i]? = some a → a.fits z (kd pk i) = true
  nd : ∀ (i j x : Nat), (as[i]?).bind Arg.ios = some x → (as[j]?).bind Arg.ios = some x → i = j
  ap : ∀ (i x : Nat) a r, (as[i]?).bind Arg.ios = some x → a ∈ as → a.lent = some r → r ≠ x
theorem callee {z : Bool} {pk : List Kd} (I : SI K ks G H σ Γ Φ) (C : ResC K G H σ Γ Φ as ds vs) (ok : FitOk z pk as) (hk : ∀ (i x : Nat), (as[i]?).bind Arg.ios = some x → kd ks x = .ow) :
    SI K pk (Gc G Φ as) H (vs.map some) (ds.map some) (Φc Φ as) := by
  obtain ⟨l1, l2⟩ := C.lens
  have ge : ∀ {i : Nat} {d : D}, (ds.map some)[i]? = some (some d) → ds[i]? = some d := fun {i d} h => by
    rw [List.getElem?_map] at h
    cases e : ds[i]? with
    | none => rw [e] at h; cases h
    | some x => rw [e] at h; cases h; rfl
  have nio : ∀ {i a}, as[i]? = some a → a.ios = none → Φc Φ as i = [] := fun h1 h2 => by
    unfold Φc
    rw [h1]
    simp only [Option.bind_some, h2]
  refine ⟨by rw [List.length_map, List.length_map, l2], by rw [List.length_map, l2, ← l1, ok.len], fun i d hd => ?_, fun i hi => ?_, fun i hi => ?_, fun i d hd ho => ?_, fun i j hij p hp hq => ?_, fun i p hp hg => ?_, fun p hg => ?_⟩
  · obtain ⟨a, v, e1, e2, h⟩ := C.get (ge hd)
    have ft := ok.fit i a e1
    refine ⟨v, by rw [List.getElem?_map, e2]; rfl, ?_⟩
    rcases h with ⟨m, F, rfl, r⟩ | ⟨x, rfl, h1, h2⟩ | ⟨q, rfl, r⟩
    rotate_left 2
    · rw [nio e1 rfl]
      have hk : kd pk i = .sh := by
        have : (kd pk i == .sh && z) = true := ft
        rw [Bool.and_eq_true] at this
        simpa using this.1
      rw [hk]
      exact Own.mono (G' := Gc G Φ as) (fun p h => h.elim .inl fun h => .inr ⟨_, List.mem_of_getElem? e1, q, rfl, h⟩) r
    · rw [nio e1 rfl]
      cases m with
      | im =>
        obtain ⟨rfl, o⟩ := r
        exact o.mono NoG.le
      | sh =>
        obtain ⟨rfl, o⟩ := r
        have hk : kd pk i = .sh := by simpa [Arg.fits] using ft
        rw [hk]
        exact o.mono fun _ h => .inl h
      | ow => cases ft
      | os => cases ft
      | rd q =>
        have hk : kd pk i = .sh := by
          have : (kd pk i == .sh && z) = true := ft
          rw [Bool.and_eq_true] at this
          simpa using this.1
        rw [hk]
        exact r.1.freeze (G' := Gc G Φ as) (fun _ h => .inl h) fun p hp => .inr ⟨_, List.mem_of_getElem? e1, q, rfl, r.2 p hp⟩
    · have hΦ : Φc Φ as i = Φ x := by
        unfold Φc
        rw [e1]
        rfl
      have hp : kd pk i = .ow := by simpa [Arg.fits] using ft
      obtain ⟨v', e3, o⟩ := I.slot x d h2
      rw [h1] at e3
      cases e3
      rw [hk i x (by rw [e1]; rfl)] at o
      rw [hΦ, hp]
      exact o
  · unfold Φc
    cases e : as[i]? with
    | none => rfl
    | some a =>
      have hlt : i < ds.length := by rw [← l1]; exact (List.getElem?_eq_some_iff.mp e).1
      exact absurd (by rw [List.getElem?_map, List.getElem?_eq_getElem hlt]; rfl) (hi ds[i])
  · cases e : as[i]? with
    | none => unfold Φc; rw [e]; rfl
    | some a =>
      have ft := ok.fit i a e
      cases a with
      | e m => exact nio e rfl
      | bx m => exact nio e rfl
      | io x =>
        have hp : kd pk i = .ow := by simpa [Arg.fits] using ft
        rw [hp] at hi
        cases hi
  · obtain ⟨a, v, e1, _, _⟩ := C.get (ge hd)
    have ft := ok.fit i a e1
    rw [ho] at ft
    cases a with
    | e m => cases m <;> simp [Arg.fits] at ft
    | bx m => simp [Arg.fits] at ft
    | io x => simp [Arg.fits] at ft
  · unfold Φc at hp hq
    cases e1 : (as[i]?).bind Arg.ios with
    | none => rw [e1] at hp; exact nomatch hp
    | some x =>
      cases e2 : (as[j]?).bind Arg.ios with
      | none => rw [e2] at hq; exact nomatch hq
      | some y =>
        rw [e1] at hp
        rw [e2] at hq
        refine I.dis x y (fun e => ?_) p hp hq
        subst e
        exact hij (ok.nd i j x e1 e2)
  · unfold Φc at hp
    cases e1 : (as[i]?).bind Arg.ios with
    | none => rw [e1] at hp; exact nomatch hp
    | some x =>
      rw [e1] at hp
      rcases hg with hg | ⟨a, ha, r, hr, hm⟩
      · exact I.gd x p hp hg
      · exact I.dis r x (ok.ap i x a r e1 ha hr) p hm hp
  · rcases hg with hg | ⟨a, ha, r, hr, hm⟩
    · exact I.gl p hg
    · obtain ⟨xs, q⟩ := I.mut r p hm
      rw [q]
      exact fun h => nomatch h
end
end CW
/-! Promises of defs that are called while no guard is under way (so that repr tells a thing in full). -/
namespace CW
open PySem PySem.Spec PyProof.Rows L2
/-- as FnOk, for calls with no guard around -/
structure FnG (P : Program) (w : World) (K : PySem.W.Frag) (mg : Str → Option Value) (base : Heap) (k : Nat) (f : Addr) (fd : FuncData) (ps : List Str) (sp : Sp) : Prop where
  arity : ∀ vs H Q E, sp vs H Q E → vs.length = ps.length
  go : ∀ (A : Around) (up : List PySem.Env) (s : Shared) (H : Hp) (args : Args) (us : List Value) (vs : List V) (Q : VK) (E : XK), A.guards = some [] → Room k A → Env0 P w K mg base A up s H → BindsTo s fd args (ps.zip us) → Vals vs us → sp vs H Q E →
    codeAny (model P w) A (.call (.ref f) args) (CR (L2.CX P w) up P w H s Q E) s
section
variable {P : Program} {w : World} {K : PySem.W.Frag} {mg : Str → Option Value} {base : Heap} {k j : Nat} {f : Addr} {fd : FuncData} {ps : List Str} {sp : Sp}
theorem FnG.mono (F : FnG P w K mg base j f fd ps sp) (h : j ≤ k) : FnG P w K mg base k f fd ps sp :=
  ⟨F.arity, fun A up s H args us vs Q E g r => F.go A up s H args us vs Q E g (r.mono h)⟩
/-- a def of the text keeps its promise, by its body -/
theorem FnG.of_body {x qual : Str} {st : Stmt} {N : List Str} (F : Fun K x qual st f fd) (S : FnScope N ps (defScope st)) (ar : ∀ vs H Q E, sp vs H Q E → vs.length = ps.length)
    (body : ∀ (cd : Value) (A : Around) (up : List PySem.Env) (s : Shared) (H : Hp) (vs : List V) (Q : VK) (E : XK), A.guards = some [] → Room k (A.deeper (envOfC qual (defScope st) s.heap.objs.size f cd)) → sp vs H Q E →
      ∃ t, PSs (cxOf (L2.CX P w) P w K mg base N qual (defScope st) f cd A up s H E) (defBody st) t ∧ t { nx := fun _ H' => Q .non H', rt := Q } (start N vs) H) : FnG P w K mg base (k + 1) f fd ps sp := by
  obtain ⟨oc, od, kV, doc, pm, an, cd, ct, sl, rfl, look, code⟩ := F.ex
  refine ⟨ar, fun A up s H args us vs Q E gd room ev bind vals want => ?_⟩
  have kin : K.In s.heap := ev.mod.kin.keeps fun b o h => (ev.bs b o h).1
  have nolim : s.heap.NoLimit := ev.mod.nolimit.keeps fun b o h => (ev.bs b o h).1
  have len := ar vs H Q E want
  refine codeAny_call_function room.depth (kin _ _ look) rfl S.co S.gen rfl (PySem.W.codeRec_of kin code) (bind _ _ _ _ (wpAny_newFunctionEnv_cells S.kind (fun p hp => ?_) fun e1 he s1 fresh => ?_))
  · obtain ⟨n, v⟩ := p
    exact (S.par n (List.of_mem_zip hp).1).imp id fun q => ⟨q, PySem.W.cellsFrom_some _ _ _ (.inl q)⟩
  · subst he
    obtain ⟨t, pt, now⟩ := body cd A up s H vs Q E gd (room.deeper _) want
    have I0 : Inv (cxOf (L2.CX P w) P w K mg base N qual (defScope st) f cd A up s H E) [] (start N vs) H s1 := inv_start S room.hd ev len vals fresh
    refine ⟨nolim.keeps fresh.toInCall.keep, codeAny_func (wpAny_mono (pt.run [] s1 (start N vs) H _ I0 now) (fun way s2 post => ?_) fun _ _ post => post)⟩
    cases way with
    | brk => exact post.elim fun _ h => h.elim fun _ h => h.2.elim
    | cont => exact post.elim fun _ h => h.elim fun _ h => h.2.elim
    | next =>
      obtain ⟨σ2, H2, J, q⟩ := post
      exact ⟨V.non, H2, J.os, J.bare, J.base, J.hok, rfl, q⟩
    | ret u =>
      obtain ⟨v, σ2, H2, J, rv, q⟩ := post
      exact ⟨v, H2, J.os, J.bare, J.base, J.hok, rv, q⟩
end
section
variable {X : Cx} {k : Nat} {f : Addr} {fd : FuncData} {ps : List Str} {sp : Sp} {E : L2.St → XK} {x : Str} {p pos : Pos} {e : Expr} {es : List Expr} {t : TA}
/-- f(e, ..) with such a promise -/
theorem pe_callG (F : FnG X.prog X.w X.K X.mg X.base k f fd ps sp) (gd : X.A.guards = some []) (room : Room k X.A) (hg : Gl X x) (hm : X.mg x = some (.ref f)) (hk : PySem.W.keepIn X.K (.ref f) = true) (hb : Binds X.K fd ps []) (hx : ∀ σ, PassesAt (L2.CX X.prog X.w) X σ (E σ))
    (ha : PA X (e :: es) t) (hdb : (x == ("__debug__" : Str)) = false) (he : starEach (e :: es) X.env = (false, eval e X.env) :: starEach es X.env) (hpl : (backTo pos (starEach es X.env)).any (·.1) = false) :
    PE X (.Call (.Name x p) (e :: es) [] pos) (tCallSD sp [] E t) := by
  refine ⟨fun pins s σ H Q I want => wpAny_Call_Name_kw (ld_glob I hg hm (PySem.W.callWith_K (h₀ := X.base) I.ok.mod.kin hk (thn (ha.run pos pins s σ H _ I want) fun us s1 got => ?_) he hpl) hdb)⟩
  obtain ⟨vs, H1, I1, r, q⟩ := got
  rw [List.append_nil] at q
  have len : us.length = ps.length := r.length ▸ F.arity _ _ _ _ q
  have bd := hb s1 us I1.kIn (by rw [List.append_nil]; exact len)
  rw [List.append_nil] at bd
  refine ⟨I1.kIn, wpAny_call (codeAny_mono (F.go X.A X.stack s1 H1 ⟨us, []⟩ us vs Q (E σ) gd room I1.env0 bd r q) fun way s2 post => ?_)⟩
  match way, post with
  | .error z, post => exact hx σ pins H1 s1 z s2 I1 post
  | .ok (.ret u), post => exact I1.after post
end
end CW
/-! Behind a call. -/
namespace CW
open PySem L2
def ioPairs (as : List Arg) : List (Nat × Nat) := (List.range as.length).filterMap fun i => ((as[i]?).bind Arg.ios).map fun x => (i, x)
section
variable {X : Cx} {φ : FEnv} {ks : List Kd} {cl : Nat → Addr} {E : L2.St → XK} {G G1 G2 G' : Addr → Prop} {H H0 H' H1 H2 : Hp} {σ σ1 σ2 : L2.St} {Γ Γ1 Γ2 Γ' : Env} {Φ Φ0 Φ1 Φ2 Φ' : Nat → List Addr}
variable {m me m1 ma mb : Md} {eff eff' ea eb ec own : List Nat} {pos : Pos} {F F' : List Addr} {v : V} {d : D} {vs : List V} {ds outs : List D} {K : PySem.W.Frag} {a b e c : Expr} {a' b' ir : CW.E} {irs : List CW.E} {ms : List Md} {as : List Arg} {es : List Expr} {z : Bool} {pk : List Kd} {io : List (Nat × Nat)}
theorem mem_io {i x : Nat} : (i, x) ∈ ioPairs as ↔ (as[i]?).bind Arg.ios = some x := by
  unfold ioPairs
  rw [List.mem_filterMap]
  constructor
  · rintro ⟨j, _, hj⟩
    cases e : (as[j]?).bind Arg.ios with
    | none => rw [e] at hj; cases hj
    | some y => rw [e] at hj; cases hj; exact e
  · intro h
    refine ⟨i, List.mem_range.mpr ?_, by rw [h]; rfl⟩
    cases e : as[i]? with
    | none => rw [e] at h; cases h
    | some a => exact (List.getElem?_eq_some_iff.mp e).1
theorem putP_len : ∀ {io : List (Nat × Nat)} {Γ : Env}, (putP Γ io outs).length = Γ.length
  | [], _ => rfl
  | (i, x) :: r, Γ => by
    rw [putP, putP_len]
    cases outs[i]? with
    | none => rfl
    | some d => exact put_len
theorem putP_out {y : Nat} : ∀ {io : List (Nat × Nat)} {Γ : Env}, (∀ i, (i, y) ∉ io) → (putP Γ io outs)[y]? = Γ[y]?
  | [], _, _ => rfl
  | (i, x) :: r, Γ, h => by
    rw [putP, putP_out fun i q => h i (List.mem_cons_of_mem _ q)]
    cases outs[i]? with
    | none => rfl
    | some d =>
      have : x ≠ y := fun e => h i (e ▸ List.mem_cons_self)
      show (Γ.set x (some d))[y]? = _
      rw [List.getElem?_set_ne this]
theorem putP_in {y i : Nat} {d : D} (hd : outs[i]? = some d) : ∀ {io : List (Nat × Nat)} {Γ : Env}, (i, y) ∈ io → (∀ j, (j, y) ∈ io → j = i) → (io.map (·.2)).Nodup → y < Γ.length → (putP Γ io outs)[y]? = some (some d)
  | (j, x) :: r, Γ, h, u, nd, hy => by
    rw [List.map_cons, List.nodup_cons] at nd
    rw [putP]
    rcases List.mem_cons.mp h with e | h
    · cases e
      rw [putP_out fun k q => nd.1 (List.mem_map.mpr ⟨_, q, rfl⟩), hd]
      exact List.getElem?_set_self hy
    · refine putP_in hd h (fun k q => u k (List.mem_cons_of_mem _ q)) nd.2 ?_
      cases outs[j]? with
      | none => exact hy
      | some d => show y < (Γ.set x (some d)).length; rw [List.length_set]; exact hy
/-- the footprints behind a call -/
def Φa (Φ Φ' : Nat → List Addr) (io : List (Nat × Nat)) : Nat → List Addr := fun y => match io.find? fun p => p.2 == y with
  | some p => Φ' p.1
  | none => Φ y
theorem Φa_in {i y : Nat} (h : (i, y) ∈ io) (u : ∀ j, (j, y) ∈ io → j = i) : Φa Φ Φ' io y = Φ' i := by
  unfold Φa
  cases e : io.find? fun p => p.2 == y with
  | none =>
    have := List.find?_eq_none.mp e (i, y) h
    simp at this
  | some p =>
    have hm := List.mem_of_find?_eq_some e
    have hp := List.find?_some e
    have : p.2 = y := by simpa using hp
    obtain ⟨j, x⟩ := p
    simp only at this
    subst this
    show Φ' j = Φ' i
    rw [u j hm]
theorem Φa_out {y : Nat} (h : ∀ i, (i, y) ∉ io) : Φa Φ Φ' io y = Φ y := by
  unfold Φa
  cases e : io.find? fun p => p.2 == y with
  | none => rfl
  | some p =>
    have hm := List.mem_of_find?_eq_some e
    have hp := List.find?_some e
    have : p.2 = y := by simpa using hp
    obtain ⟨j, x⟩ := p
    simp only at this
    subst this
    exact absurd hm (h j)
theorem call_after (I : SI K ks G H σ Γ Φ) (C : ResC K G H σ Γ Φ as ds vs) (ok : FitOk z pk as) (hk : ∀ (i x : Nat), (as[i]?).bind Arg.ios = some x → kd ks x = .ow) (hio : io = ioPairs as) (nd : (io.map (·.2)).Nodup)
    (hl : outs.length = ds.length) (post : SI K pk G' H' (vs.map some) (outs.map some) Φ') (s : Step (ioIx pk) (Gc G Φ as) H (Φc Φ as) (ds.map some) G' H' Φ' (outs.map some))
    (g1 : ∀ p, G p → G2 p) (g2 : ∀ p, G2 p → G' p) (g3 : ∀ p, G2 p → G p ∨ H p = none ∨ ∃ x, (∃ i, (i, x) ∈ io) ∧ p ∈ Φ x) :
    SI K ks G2 H' σ (putP Γ io outs) (Φa Φ Φ' io) ∧ Step (io.map (·.2)) G H Φ Γ G2 H' (Φa Φ Φ' io) (putP Γ io outs) ∧ ∀ {md : Md} {F : List Addr} {v : V} {d : D}, md = .im ∨ md = .ow → Res K md G' H' Φ' F v d → Org md (ioIx pk) H (Φc Φ as) F → Res K md G2 H' (Φa Φ Φ' io) F v d ∧ Org md (io.map (·.2)) H Φ F := by
  obtain ⟨l1, l2⟩ := C.lens
  have uq : ∀ {i j x : Nat}, (i, x) ∈ io → (j, x) ∈ io → j = i := fun {i j x} h1 h2 => by
    rw [hio, mem_io] at h1 h2
    exact ok.nd j i x h2 h1
  have hΦc : ∀ {i x : Nat}, (i, x) ∈ io → Φc Φ as i = Φ x := fun {i x} h => by
    rw [hio, mem_io] at h
    unfold Φc
    rw [h]
  have hΦn : ∀ {i : Nat} {p : Addr}, p ∈ Φc Φ as i → ∃ x, (i, x) ∈ io ∧ p ∈ Φ x := fun {i p} hp => by
    unfold Φc at hp
    cases e : (as[i]?).bind Arg.ios with
    | none => rw [e] at hp; exact nomatch hp
    | some x => rw [e] at hp; exact ⟨x, by rw [hio, mem_io]; exact e, hp⟩
  have ixio : ∀ {i x : Nat}, (i, x) ∈ io → i ∈ ioIx pk := fun {i x} h => by
    rw [hio, mem_io] at h
    cases e : as[i]? with
    | none => rw [e] at h; cases h
    | some a =>
      rw [e] at h
      have ft := ok.fit i a e
      unfold ioIx
      rw [List.mem_filter]
      refine ⟨List.mem_range.mpr (by rw [← ok.len]; exact (List.getElem?_eq_some_iff.mp e).1), ?_⟩
      cases a with
      | e m => cases h
      | io x' => exact ft
      | bx r => cases h
  -- the cells that may have changed
  have wr : ∀ {p : Addr}, (∃ i ∈ ioIx pk, p ∈ Φc Φ as i) → ∃ x, (∃ i, (i, x) ∈ io) ∧ p ∈ Φ x := fun ⟨i, _, h⟩ => by
    obtain ⟨x, h1, h2⟩ := hΦn h
    exact ⟨x, ⟨i, h1⟩, h2⟩
  have kp : Kp (fun p => ∃ i ∈ ioIx pk, p ∈ Φc Φ as i) H H' := fun p o e n => s.kp p o e fun i hi q => n ⟨i, hi, q⟩
  have w0 : Wl (fun p => ∃ i ∈ ioIx pk, p ∈ Φc Φ as i) H := fun p h o e => by
    obtain ⟨x, _, h2⟩ := wr h
    obtain ⟨xs, q⟩ := I.mut x p h2
    rw [q] at e
    exact ⟨xs, (Option.some.inj e).symm⟩
  have gw : ∀ p, G p → ¬ ∃ i ∈ ioIx pk, p ∈ Φc Φ as i := fun p g h => by
    obtain ⟨x, _, h2⟩ := wr h
    exact I.gd x p h2 g
  -- a name's cells that the def did not get
  have other : ∀ {y : Nat}, (∀ i, (i, y) ∉ io) → ∀ p ∈ Φ y, ¬ ∃ i ∈ ioIx pk, p ∈ Φc Φ as i := fun {y} hy p hp h => by
    obtain ⟨x, ⟨i, h1⟩, h2⟩ := wr h
    by_cases e : y = x
    · subst e; exact hy i h1
    · exact I.dis y x e p hp h2
  -- where the def's new cells come from
  have newc : ∀ {i x : Nat}, (i, x) ∈ io → ∀ p ∈ Φ' i, (∃ x', (∃ i', (i', x') ∈ io) ∧ p ∈ Φ x') ∨ H p = none := fun {i x} h p hp => by
    rcases s.fn i (ixio h) p hp with q | q
    · exact .inl (wr q)
    · exact .inr q
  have dec : ∀ y : Nat, (∃ i, (i, y) ∈ io) ∨ ∀ i, (i, y) ∉ io := fun y => by
    by_cases h : ∃ i, (i, y) ∈ io
    · exact .inl h
    · exact .inr fun i q => h ⟨i, q⟩
  have slotx : ∀ {i x : Nat}, (i, x) ∈ io → ∃ v d o, σ[x]? = some (some v) ∧ Γ[x]? = some (some d) ∧ outs[i]? = some o ∧ Own K NoG H' (Φ' i) v o ∧ x < Γ.length ∧ (putP Γ io outs)[x]? = some (some o) := fun {i x} h => by
    have h' := h
    rw [hio, mem_io] at h'
    cases e : as[i]? with
    | none => rw [e] at h'; cases h'
    | some a =>
      rw [e] at h'
      have hi : i < ds.length := by rw [← l1]; exact (List.getElem?_eq_some_iff.mp e).1
      obtain ⟨a', v, e1, e2, hh⟩ := C.get (List.getElem?_eq_getElem hi)
      rw [e] at e1
      cases e1
      have ft := ok.fit i a e
      have ho : i < outs.length := by rw [hl]; exact hi
      obtain ⟨v', e3, oo⟩ := post.slot i outs[i] (by rw [List.getElem?_map, List.getElem?_eq_getElem ho]; rfl)
      rw [List.getElem?_map, e2] at e3
      cases e3
      cases a with
      | e m => cases h'
      | bx m => cases h'
      | io x' =>
        cases h'
        rcases hh with ⟨m, F, q, _⟩ | ⟨x'', q, h1, h2⟩ | ⟨r, q, _⟩
        · cases q
        rotate_left 1
        · cases q
        · cases q
          have hp : kd pk i = .ow := by simpa [Arg.fits] using ft
          rw [hp] at oo
          have hx : x < Γ.length := (List.getElem?_eq_some_iff.mp h2).1
          exact ⟨v, _, _, h1, h2, List.getElem?_eq_getElem ho, oo, hx, putP_in (List.getElem?_eq_getElem ho) h (fun j q => uq h q) nd hx⟩
  refine ⟨⟨by rw [putP_len]; exact I.len, I.kl, fun y d hy => ?_, fun y hy => ?_, fun y hy => ?_, fun y d hy ho => ?_, fun y y' hyy p hp hq => ?_, fun y p hp hg => ?_, fun p hg => ?_⟩, ⟨g1, fun p hg => ?_, fun p o e n => ?_, fun y hy => ?_, fun y hy p hp => ?_, s.ex⟩, fun {md F v d} hmd r o => ?_⟩
  · rcases dec y with ⟨i, h⟩ | h
    · obtain ⟨v, d0, o, e1, _, _, oo, _, e4⟩ := slotx h
      rw [e4] at hy
      cases hy
      rw [Φa_in h fun j q => uq h q, hk i y (by rw [hio, mem_io] at h; exact h)]
      exact ⟨v, e1, oo⟩
    · rw [putP_out h] at hy
      obtain ⟨v, e1, oo⟩ := I.slot y d hy
      refine ⟨v, e1, ?_⟩
      rw [Φa_out h]
      exact oo.keep kp w0 (fun p g => gw p (Kd.g_le p g)) (Kd.g_mono g1) (other h)
  · rcases dec y with ⟨i, h⟩ | h
    · obtain ⟨v, d0, o, e1, _, _, oo, _, e4⟩ := slotx h
      exact absurd e4 (hy o)
    · rw [putP_out h] at hy
      rw [Φa_out h]
      exact I.non y hy
  · rcases dec y with ⟨i, h⟩ | h
    · rw [hk i y (by rw [hio, mem_io] at h; exact h)] at hy
      cases hy
    · rw [Φa_out h]
      exact I.sh y hy
  · rcases dec y with ⟨i, h⟩ | h
    · rw [hk i y (by rw [hio, mem_io] at h; exact h)] at ho
      cases ho
    · rw [putP_out h] at hy
      rw [Φa_out h]
      exact I.os y d hy ho
  · have one : ∀ {y y' : Nat} {i : Nat}, (i, y) ∈ io → (∀ i, (i, y') ∉ io) → p ∈ Φ' i → p ∈ Φ y' → False := fun {y y' i} h h' hp hq => by
      rcases newc h p hp with ⟨x, ⟨j, hx⟩, hm⟩ | hn
      · by_cases e : y' = x
        · subst e; exact h' j hx
        · exact I.dis y' x e p hq hm
      · obtain ⟨xs, q⟩ := I.mut y' p hq
        rw [hn] at q
        cases q
    rcases dec y with ⟨i, h⟩ | h <;> rcases dec y' with ⟨i', h'⟩ | h'
    · rw [Φa_in h fun j q => uq h q] at hp
      rw [Φa_in h' fun j q => uq h' q] at hq
      refine post.dis i i' (fun e => ?_) p hp hq
      subst e
      rw [hio, mem_io] at h h'
      rw [h] at h'
      exact hyy (Option.some.inj h')
    · rw [Φa_in h fun j q => uq h q] at hp
      rw [Φa_out h'] at hq
      exact one h h' hp hq
    · rw [Φa_out h] at hp
      rw [Φa_in h' fun j q => uq h' q] at hq
      exact one h' h hq hp
    · rw [Φa_out h] at hp
      rw [Φa_out h'] at hq
      exact I.dis y y' hyy p hp hq
  · rcases dec y with ⟨i, h⟩ | h
    · rw [Φa_in h fun j q => uq h q] at hp
      exact post.gd i p hp (g2 p hg)
    · rw [Φa_out h] at hp
      rcases g3 p hg with q | q | ⟨x, ⟨i, hx⟩, q⟩
      · exact I.gd y p hp q
      · obtain ⟨xs, z⟩ := I.mut y p hp
        rw [q] at z
        cases z
      · by_cases e : y = x
        · subst e; exact h i hx
        · exact I.dis y x e p hp q
  · exact post.gl p (g2 p hg)
  · rcases g3 p hg with q | q | ⟨x, ⟨i, hx⟩, q⟩
    · exact .inl q
    · exact .inr (.inl q)
    · exact .inr (.inr ⟨x, List.mem_map.mpr ⟨_, hx, rfl⟩, q⟩)
  · refine s.kp p o e fun i hi hp => ?_
    obtain ⟨x, h1, h2⟩ := hΦn hp
    exact n x (List.mem_map.mpr ⟨_, h1, rfl⟩) h2
  · have h : ∀ i, (i, y) ∉ io := fun i q => hy (List.mem_map.mpr ⟨_, q, rfl⟩)
    exact ⟨Φa_out h, putP_out h⟩
  · obtain ⟨⟨i, x⟩, h, rfl⟩ := List.mem_map.mp hy
    rw [Φa_in h fun j q => uq h q] at hp
    rcases newc h p hp with ⟨x', ⟨j, hx⟩, q⟩ | q
    · exact .inl ⟨x', List.mem_map.mpr ⟨_, hx, rfl⟩, q⟩
    · exact .inr q
  · have og : md.tmp = true → ∀ p ∈ F, H p = none ∨ ∃ x ∈ io.map (·.2), p ∈ Φ x := fun t p hp => by
      rcases o t p hp with q | ⟨i, _, q⟩
      · exact .inl q
      · obtain ⟨x, h1, h2⟩ := hΦn q
        exact .inr ⟨x, List.mem_map.mpr ⟨_, h1, rfl⟩, h2⟩
    refine ⟨?_, og⟩
    rcases hmd with rfl | rfl
    · exact r
    · refine ⟨r.1, fun p hp => ?_⟩
      obtain ⟨t1, t2, t3⟩ := r.2 p hp
      refine ⟨fun h => t1 (g2 p h), fun y hy => ?_, t3⟩
      rcases dec y with ⟨i, h⟩ | h
      · rw [Φa_in h fun j q => uq h q] at hy
        exact t2 i hy
      · rw [Φa_out h] at hy
        rcases og rfl p hp with q | ⟨x, hx, q⟩
        · obtain ⟨xs, z⟩ := I.mut y p hy
          rw [q] at z
          cases z
        · obtain ⟨⟨i, x'⟩, hx', rfl⟩ := List.mem_map.mp hx
          by_cases e : y = x'
          · subst e; exact h i hx'
          · exact I.dis y x' e p hy q

theorem no_lent (h : ∀ a ∈ as, a.lent = none) : ∀ p, Gc G Φ as p → G p := fun p hp => by
  rcases hp with h' | ⟨a, ha, r, hr, _⟩
  · exact h'
  · rw [h a ha] at hr
    cases hr
theorem snd_call {lv : Nat} {f : Addr} {fd : FuncData} {ps : List Str} {sg : FSig} {n : Nat} {x : Str} {p : Pos}
    (Fn : FnG X.prog X.w X.K X.mg X.base lv f fd ps (spOf X.K cl sg (φ.f n))) (gd : X.A.guards = some []) (hr : Room lv X.A) (hg : Gl X x) (hm : X.mg x = some (.ref f)) (hkp : PySem.W.keepIn X.K (.ref f) = true) (hb : Binds X.K fd ps []) (hx : ∀ σ, PassesAt (L2.CX X.prog X.w) X σ (E σ))
    (hdb : (x == ("__debug__" : Str)) = false) (hs : noStar e = true) (hss : es.all noStar = true) (ha : SndC X φ ks cl E (e :: es) irs as eff) (ok : FitOk z sg.pk as) (hz : (sg.rk = .sh ∧ ∀ a ∈ as, a.lent = none) ∨ sg.rk = .im ∨ sg.rk = .ow)
    (hk : ∀ (i x : Nat), (as[i]?).bind Arg.ios = some x → kd ks x = .ow) (hio : io = ioPairs as) (nd : (io.map (·.2)).Nodup) :
    SndE X φ ks cl E (.Call (.Name x p) (e :: es) [] pos) (.call n irs io) sg.rk.md (eff ++ io.map (·.2)) := by
  obtain ⟨t, pa, qa⟩ := ha
  refine ⟨_, pe_callG Fn gd hr hg hm hkp hb hx pa hdb (noStar_ok hs _) (noStars_ok hss _ _), fun G H σ Γ Φ Q I h => ?_⟩
  simp only [evE] at h
  refine qa G H σ Γ Φ _ I ?_
  cases hev : evEs φ irs Γ with
  | bad =>
    rw [hev] at h
    exact h.elim
  | exc k Γ1 =>
    rw [hev] at h
    exact fun G1 H1 Φ1 I1 s1 => h G1 H1 Φ1 I1 (s1.wider sub_l)
  | ok ds Γ1 =>
    rw [hev, bind_ok] at h
    intro G1 H1 Φ1 vs I1 s1 C
    simp only at C
    have l12 := C.lens
    have Ic := callee I1 C ok hk
    have tr : ∀ {G' H' Φ' Γ'}, Step (io.map (·.2)) G1 H1 Φ1 Γ1 G' H' Φ' Γ' → Step (eff ++ io.map (·.2)) G H Φ Γ G' H' Φ' Γ' := fun s2 => s1.trans s2
    have og : ∀ {md : Md} {F : List Addr}, Org md (io.map (·.2)) H1 Φ1 F → Org md (eff ++ io.map (·.2)) H Φ F := fun o => Org.back s1 o
    -- what may be frozen behind it
    have pick : ∀ {G' : Addr → Prop} {H' : Hp} {Φ' : Nat → List Addr} {outs : List D}, Step (ioIx sg.pk) (Gc G1 Φ1 as) H1 (Φc Φ1 as) (ds.map some) G' H' Φ' (outs.map some) →
        ∃ G2 : Addr → Prop, (∀ p, G1 p → G2 p) ∧ (∀ p, G2 p → G' p) ∧ (∀ p, G2 p → G1 p ∨ H1 p = none ∨ ∃ x, (∃ i, (i, x) ∈ io) ∧ p ∈ Φ1 x) ∧ (sg.rk = .sh → ∀ p, G' p → G2 p) := fun {G' H' Φ' outs} s => by
      rcases hz with ⟨h1, h2⟩ | h1
      · refine ⟨G', fun p g => s.g p (.inl g), fun _ h => h, fun p g => ?_, fun _ _ h => h⟩
        rcases s.gn p g with q | q | ⟨i, _, q⟩
        · exact .inl (no_lent h2 p q)
        · exact .inr (.inl q)
        · unfold Φc at q
          cases e : (as[i]?).bind Arg.ios with
          | none => rw [e] at q; exact nomatch q
          | some x => rw [e] at q; exact .inr (.inr ⟨x, ⟨i, by rw [hio, mem_io]; exact e⟩, q⟩)
      · refine ⟨G1, fun _ h => h, fun p g => s.g p (.inl g), fun p g => .inl g, fun h => ?_⟩
        rcases h1 with h1 | h1 <;> rw [h1] at h <;> cases h
    refine ⟨G1 |> fun G => Gc G Φ1 as, ds, Φc Φ1 as, by rw [List.append_nil, l12.2, ← l12.1, ok.len], by rw [List.append_nil]; exact Ic, ?_⟩
    cases hf : φ.f n ds with
    | bad =>
      rw [hf] at h
      exact h.elim
    | exc k outs =>
      rw [hf] at h
      intro hl G' H' Φ' post s
      rw [List.append_nil] at post
      obtain ⟨G2, g1, g2, g3, _⟩ := pick s
      obtain ⟨I2, s2, _⟩ := call_after I1 C ok hk hio nd hl post s g1 g2 g3
      exact h G2 H' _ I2 (tr s2)
    | ok d outs =>
      rw [hf] at h
      intro hl G' H' Φ' F v post s r o
      rw [List.append_nil] at post
      obtain ⟨G2, g1, g2, g3, g4⟩ := pick s
      obtain ⟨I2, s2, k⟩ := call_after I1 C ok hk hio nd hl post s g1 g2 g3
      rcases hz with ⟨h1, _⟩ | h1 | h1
      · rw [h1] at r h o
        refine h G2 H' _ v I2 (tr s2) ⟨[], ⟨rfl, ?_⟩, fun h => nomatch h⟩
        obtain ⟨rfl, r⟩ := r
        exact r.mono (g4 h1)
      · rw [h1] at r h o
        obtain ⟨a1, a2⟩ := k (.inl rfl) r o
        exact h G2 H' _ v I2 (tr s2) ⟨F, a1, og a2⟩
      · rw [h1] at r h o
        obtain ⟨a1, a2⟩ := k (.inr rfl) r o
        exact h G2 H' _ v I2 (tr s2) ⟨F, a1, og a2⟩
end
end CW
/-! Statements. -/
namespace CW
open PySem L2
section
variable (X : Cx) (φ : FEnv) (ks : List Kd) (cl : Nat → Addr) (E : L2.St → XK) (rm : Md)
def Agr (w : List Nat) (σ σ' : L2.St) : Prop := ∀ j, j ∉ w → σ'[j]? = σ[j]?
def DenS (eff w : List Nat) (r : SR) (G : Addr → Prop) (H : Hp) (σ : L2.St) (Γ : Env) (Φ : Nat → List Addr) (D0 : Ends) : Prop := match r with
  | .nx Γ' => ∀ G' H' σ' Φ', SI X.K ks G' H' σ' Γ' Φ' → Step eff G H Φ Γ G' H' Φ' Γ' → Agr w σ σ' → D0.nx σ' H'
  | .rt d Γ' => ∀ G' H' σ' Φ' F v, SI X.K ks G' H' σ' Γ' Φ' → Step eff G H Φ Γ G' H' Φ' Γ' → Agr w σ σ' → Res X.K rm G' H' Φ' F v d → Org rm eff H Φ F → D0.rt v H'
  | .bk Γ' => ∀ G' H' σ' Φ', SI X.K ks G' H' σ' Γ' Φ' → Step eff G H Φ Γ G' H' Φ' Γ' → Agr w σ σ' → D0.bk σ' H'
  | .exc c Γ' => ∀ G' H' σ' Φ', SI X.K ks G' H' σ' Γ' Φ' → Step eff G H Φ Γ G' H' Φ' Γ' → Agr w σ σ' → E σ' (.ref (cl c)) none H'
  | .bad => False
def SndS (st : Stmt) (ir : S) (eff w : List Nat) : Prop :=
  ∃ t, PS X st t ∧ ∀ G H σ Γ Φ (D0 : Ends), SI X.K ks G H σ Γ Φ → DenS X ks cl E rm eff w (evS φ ir Γ) G H σ Γ Φ D0 → t D0 σ H
def SndSs (st : List Stmt) (ir : List S) (eff w : List Nat) : Prop :=
  ∃ t, PSs X st t ∧ ∀ G H σ Γ Φ (D0 : Ends), SI X.K ks G H σ Γ Φ → DenS X ks cl E rm eff w (evSs φ ir Γ) G H σ Γ Φ D0 → t D0 σ H
end
section
variable {X : Cx} {φ : FEnv} {ks : List Kd} {cl : Nat → Addr} {E : L2.St → XK} {rm : Md} {G G1 G2 G' : Addr → Prop} {H H0 H' H1 H2 : Hp} {σ σ1 σ2 : L2.St} {Γ Γ1 Γ2 Γ' : Env} {Φ Φ0 Φ1 Φ2 Φ' : Nat → List Addr}
variable {m me m1 ma mb : Md} {eff eff' ea eb ec own w w' : List Nat} {pos : Pos} {F F' : List Addr} {v : V} {d : D} {vs : List V} {ds outs : List D} {K : PySem.W.Frag} {a b e c : Expr} {a' b' ir : CW.E} {st : Stmt} {sts : List Stmt} {s' : S} {ss : List S} {D0 : Ends}
theorem Agr.refl : Agr w σ σ := fun _ _ => rfl
theorem Agr.trans (h : Agr w σ σ1) (h' : Agr w' σ1 σ2) : Agr (w ++ w') σ σ2 := fun j hj => (h' j fun q => hj (List.mem_append_right _ q)).trans (h j fun q => hj (List.mem_append_left _ q))
theorem Agr.wider (h : Agr w σ σ1) (e : ∀ i ∈ w, i ∈ w') : Agr w' σ σ1 := fun j hj => h j fun q => hj (e j q)
/-- an expression ahead of a statement's work -/
theorem DenS.expr {α β : Type} {rel1 : (Addr → Prop) → Hp → (Nat → List Addr) → α → β → Prop} {r : R α} {k : α → Env → SR} {Q1 : β → Hp → Prop}
    (h : DenS X ks cl E rm eff w (r.toS k) G H σ Γ Φ D0) (sub : ∀ i ∈ ea, i ∈ eff)
    (hk : ∀ a Γ1 G1 H1 Φ1 b, SI X.K ks G1 H1 σ Γ1 Φ1 → Step ea G H Φ Γ G1 H1 Φ1 Γ1 → rel1 G1 H1 Φ1 a b → DenS X ks cl E rm eff w (k a Γ1) G1 H1 σ Γ1 Φ1 D0 → Q1 b H1) :
    DenR X ks cl E ea rel1 r G H σ Γ Φ Q1 := by
  cases r with
  | ok a Γ1 =>
    intro G1 H1 Φ1 b I1 s1 r1
    refine hk a Γ1 G1 H1 Φ1 b I1 s1 r1 ?_
    have h' : DenS X ks cl E rm eff w (k a Γ1) G H σ Γ Φ D0 := h
    have tr : ∀ {G' H' Φ' Γ'}, Step eff G1 H1 Φ1 Γ1 G' H' Φ' Γ' → Step eff G H Φ Γ G' H' Φ' Γ' := fun s2 => (s1.trans s2).wider fun i hi => by
      rcases List.mem_append.mp hi with hi | hi
      · exact sub i hi
      · exact hi
    have og : ∀ {F}, Org rm eff H1 Φ1 F → Org rm eff H Φ F := fun o => (Org.back s1 o).mono fun i hi => by
      rcases List.mem_append.mp hi with hi | hi
      · exact sub i hi
      · exact hi
    revert h'
    cases k a Γ1 with
    | nx Γ2 => exact fun h' G' H' σ' Φ' I' s' ag => h' G' H' σ' Φ' I' (tr s') ag
    | rt d Γ2 => exact fun h' G' H' σ' Φ' F v I' s' ag r o => h' G' H' σ' Φ' F v I' (tr s') ag r (og o)
    | bk Γ2 => exact fun h' G' H' σ' Φ' I' s' ag => h' G' H' σ' Φ' I' (tr s') ag
    | exc c Γ2 => exact fun h' G' H' σ' Φ' I' s' ag => h' G' H' σ' Φ' I' (tr s') ag
    | bad => exact fun h' => h'
  | exc c Γ1 => exact fun G1 H1 Φ1 I1 s1 => h G1 H1 σ Φ1 I1 (s1.wider sub) Agr.refl
  | bad => exact h.elim
/-- a statement behind another -/
theorem DenS.seq {r : SR} {k : Env → SR} {D1 : Ends} (h : DenS X ks cl E rm eff w (r.seq k) G H σ Γ Φ D0) (sub : ∀ i ∈ ea, i ∈ eff) (sw : ∀ i ∈ w', i ∈ w) (hr : D1.rt = D0.rt) (hb : D1.bk = D0.bk)
    (hk : ∀ Γ1 G1 H1 σ1 Φ1, SI X.K ks G1 H1 σ1 Γ1 Φ1 → Step ea G H Φ Γ G1 H1 Φ1 Γ1 → Agr w' σ σ1 → DenS X ks cl E rm eff w (k Γ1) G1 H1 σ1 Γ1 Φ1 D0 → D1.nx σ1 H1) :
    DenS X ks cl E rm ea w' r G H σ Γ Φ D1 := by
  cases r with
  | nx Γ1 =>
    intro G1 H1 σ1 Φ1 I1 s1 a1
    refine hk Γ1 G1 H1 σ1 Φ1 I1 s1 a1 ?_
    have h' : DenS X ks cl E rm eff w (k Γ1) G H σ Γ Φ D0 := h
    have tr : ∀ {G' H' Φ' Γ'}, Step eff G1 H1 Φ1 Γ1 G' H' Φ' Γ' → Step eff G H Φ Γ G' H' Φ' Γ' := fun s2 => (s1.trans s2).wider fun i hi => by
      rcases List.mem_append.mp hi with hi | hi
      · exact sub i hi
      · exact hi
    have ta : ∀ {σ'}, Agr w σ1 σ' → Agr w σ σ' := fun ag => (a1.trans ag).wider fun i hi => by
      rcases List.mem_append.mp hi with hi | hi
      · exact sw i hi
      · exact hi
    have og : ∀ {F}, Org rm eff H1 Φ1 F → Org rm eff H Φ F := fun o => (Org.back s1 o).mono fun i hi => by
      rcases List.mem_append.mp hi with hi | hi
      · exact sub i hi
      · exact hi
    revert h'
    cases k Γ1 with
    | nx Γ2 => exact fun h' G' H' σ' Φ' I' s' ag => h' G' H' σ' Φ' I' (tr s') (ta ag)
    | rt d Γ2 => exact fun h' G' H' σ' Φ' F v I' s' ag r o => h' G' H' σ' Φ' F v I' (tr s') (ta ag) r (og o)
    | bk Γ2 => exact fun h' G' H' σ' Φ' I' s' ag => h' G' H' σ' Φ' I' (tr s') (ta ag)
    | exc c Γ2 => exact fun h' G' H' σ' Φ' I' s' ag => h' G' H' σ' Φ' I' (tr s') (ta ag)
    | bad => exact fun h' => h'
  | rt d Γ1 =>
    intro G1 H1 σ1 Φ1 F v I1 s1 a1 r o
    rw [hr]
    exact h G1 H1 σ1 Φ1 F v I1 (s1.wider sub) (a1.wider sw) r (o.mono sub)
  | bk Γ1 =>
    intro G1 H1 σ1 Φ1 I1 s1 a1
    rw [hb]
    exact h G1 H1 σ1 Φ1 I1 (s1.wider sub) (a1.wider sw)
  | exc c Γ1 => exact fun G1 H1 σ1 Φ1 I1 s1 a1 => h G1 H1 σ1 Φ1 I1 (s1.wider sub) (a1.wider sw)
  | bad => exact h.elim
theorem ss_nil : SndSs X φ ks cl E rm [] [] [] [] := ⟨_, pss_nil, fun G H σ Γ Φ D0 I h => by
  simp only [evSs] at h
  exact h G H σ Φ I Step.refl Agr.refl⟩
theorem ss_cons (h1 : SndS X φ ks cl E rm st s' ea w) (h2 : SndSs X φ ks cl E rm sts ss eb w') : SndSs X φ ks cl E rm (st :: sts) (s' :: ss) (ea ++ eb) (w ++ w') := by
  obtain ⟨t, p, q⟩ := h1
  obtain ⟨u, p', q'⟩ := h2
  refine ⟨_, pss_cons p p', fun G H σ Γ Φ D0 I h => ?_⟩
  simp only [evSs] at h
  refine q G H σ Γ Φ _ I (h.seq sub_l sub_l rfl rfl fun Γ1 G1 H1 σ1 Φ1 I1 s1 a1 h1 => ?_)
  refine q' G1 H1 σ1 Γ1 Φ1 D0 I1 ?_
  have : DenS X ks cl E rm (ea ++ eb) (w ++ w') ((evSs φ ss Γ1).seq .nx) G1 H1 σ1 Γ1 Φ1 D0 := by
    have e : (evSs φ ss Γ1).seq .nx = evSs φ ss Γ1 := by cases evSs φ ss Γ1 <;> rfl
    rw [e]
    exact h1
  exact this.seq sub_r sub_r rfl rfl fun Γ2 G2 H2 σ2 Φ2 I2 s2 a2 h2 => h2 G2 H2 σ2 Φ2 I2 Step.refl Agr.refl
/-! ### assignment -/
def Md.to (m : Md) (k : Kd) : Bool := match m, k with
  | .im, .im => true
  | .im, .sh => true
  | .im, .ow => true
  | .sh, .sh => true
  | .ow, .ow => true
  | .os, .os => true
  | _, _ => false
/-- a name gets a value that has just come -/
theorem SI.store {i : Nat} (I : SI K ks G H σ Γ Φ) (hi : i < ks.length) (r : Res K m G H Φ F v d) (hm : m.to (kd ks i) = true) :
    SI K ks G H (σ.set i (some v)) (CW.put Γ i d) (pu Φ i F) ∧ ∀ eff, Org m eff H0 Φ0 F → True := by
  refine ⟨?_, fun _ _ => trivial⟩
  have hi' : i < σ.length := by rw [← I.kl]; exact hi
  have tm : Tmp G H Φ F → Tmp G H (pu Φ i []) F := fun t p hp => ⟨(t p hp).1, fun j hj => by
    rcases pu_mem hj with ⟨_, q⟩ | ⟨_, q⟩
    · exact nomatch q
    · exact (t p hp).2.1 j q, (t p hp).2.2⟩
  unfold CW.put
  cases hk : kd ks i with
  | im =>
    rw [hk] at hm
    have e : m = .im := by cases m <;> first | rfl | cases hm
    subst e
    obtain ⟨rfl, o⟩ := r
    exact I.put hi' (by rw [hk]; exact o) (fun _ => rfl) (fun h => by rw [hk] at h; cases h) Tmp.nil
  | sh =>
    rw [hk] at hm
    have e : m = .im ∨ m = .sh := by cases m <;> first | exact .inl rfl | exact .inr rfl | cases hm
    rcases e with rfl | rfl
    · obtain ⟨rfl, o⟩ := r
      exact I.put hi' (by rw [hk]; exact o.mono NoG.le) (fun _ => rfl) (fun h => by rw [hk] at h; cases h) Tmp.nil
    · obtain ⟨rfl, o⟩ := r
      exact I.put hi' (by rw [hk]; exact o) (fun _ => rfl) (fun h => by rw [hk] at h; cases h) Tmp.nil
  | ow =>
    rw [hk] at hm
    have e : m = .im ∨ m = .ow := by cases m <;> first | exact .inl rfl | exact .inr rfl | cases hm
    rcases e with rfl | rfl
    · obtain ⟨rfl, o⟩ := r
      exact I.put hi' (by rw [hk]; exact o) (fun _ => rfl) (fun h => by rw [hk] at h; cases h) Tmp.nil
    · exact I.put hi' (by rw [hk]; exact r.1) (fun h => by rw [hk] at h; cases h) (fun h => by rw [hk] at h; cases h) (tm r.2)
  | os =>
    rw [hk] at hm
    have e : m = .os := by cases m <;> first | rfl | cases hm
    subst e
    exact I.put hi' (by rw [hk]; exact r.1) (fun h => by rw [hk] at h; cases h) (fun _ => r.2.2) (tm r.2.1)
theorem to_tmp {k : Kd} (h : m.to k = true) (r : Res K m G H Φ F v d) (o : Org m eff H0 Φ0 F) : ∀ p ∈ F, H0 p = none ∨ ∃ j ∈ eff, p ∈ Φ0 j := fun p hp => by
  cases m with
  | im => rw [r.1] at hp; exact nomatch hp
  | sh => rw [r.1] at hp; exact nomatch hp
  | ow => exact o rfl p hp
  | os => exact o rfl p hp
  | rd _ => cases k <;> cases h
theorem asg_sound {te : TE} {i : Nat} {x : Str} (h : NmOk X ks x i) (hm : m.to (kd ks i) = true) (q : ∀ G H σ Γ Φ (Q : VK), SI X.K ks G H σ Γ Φ → DenR X ks cl E ea (RelE X m ea H Φ) (evE φ a' Γ) G H σ Γ Φ Q → te σ H Q) :
    ∀ G H σ Γ Φ (D0 : Ends), SI X.K ks G H σ Γ Φ → DenS X ks cl E rm (ea ++ [i]) [i] (evS φ (.asg i a') Γ) G H σ Γ Φ D0 → tAsg te (gName i) D0 σ H := fun G H σ Γ Φ D0 I hh => by
  simp only [evS] at hh
  refine q G H σ Γ Φ _ I ?_
  cases hev : evE φ a' Γ with
  | bad =>
    rw [hev] at hh
    exact hh.elim
  | exc k Γ1 =>
    rw [hev] at hh
    exact fun G1 H1 Φ1 I1 s1 => hh G1 H1 σ Φ1 I1 (s1.wider sub_l) Agr.refl
  | ok d Γ1 =>
    rw [hev, toS_ok] at hh
    intro G1 H1 Φ1 v I1 s1 ⟨F, r, o⟩
    obtain ⟨I2, _⟩ := I1.store (H0 := H) (Φ0 := Φ) h.lt r hm
    have of := to_tmp hm r o
    refine hh G1 H1 _ _ I2 ⟨s1.g, fun p g => ?_, fun p u e n => s1.kp p u e fun j hj => n j (List.mem_append_left _ hj), fun j hj => ?_, fun j hj p hp => ?_, s1.ex⟩ fun j hj => List.getElem?_set_ne fun q => hj (List.mem_singleton.mpr q.symm)
    · rcases s1.gn p g with q | q | ⟨j, hj, q⟩
      · exact .inl q
      · exact .inr (.inl q)
      · exact .inr (.inr ⟨j, List.mem_append_left _ hj, q⟩)
    · have hji : j ≠ i := fun q => hj (List.mem_append_right _ (List.mem_singleton.mpr q))
      unfold put
      rw [pu_ne hji, List.getElem?_set_ne hji.symm]
      exact s1.fx j fun q => hj (List.mem_append_left _ q)
    · rcases pu_mem hp with ⟨_, q⟩ | ⟨hji, q⟩
      · rcases of p q with z | ⟨l, hl, z⟩
        · exact .inr z
        · exact .inl ⟨l, List.mem_append_left _ hl, z⟩
      · rcases List.mem_append.mp hj with hj | hj
        · rcases s1.fn j hj p q with ⟨l, hl, z⟩ | z
          · exact .inl ⟨l, List.mem_append_left _ hl, z⟩
          · exact .inr z
        · exact absurd (List.mem_singleton.mp hj) hji
def noComp : Expr → Bool
  | .ListComp _ _ _ _ => false
  | .SetComp _ _ _ _ => false
  | .DictComp _ _ _ _ _ => false
  | _ => true
theorem noComp_ok {e : Expr} (h : noComp e = true) (t : Option Expr) (l : Nat) (env : PySem.Env) : swapsWith e t l env = pure false := by
  cases e <;> first | rfl | cases h
theorem snd_asg {x : Str} {i : Nat} {p : Pos} (h : NmOk X ks x i) (hm : m.to (kd ks i) = true) (hc : noComp a = true) (ha : SndE X φ ks cl E a a' m ea) : SndS X φ ks cl E rm (.Assign [.Name x p] a pos) (.asg i a') (ea ++ [i]) [i] := by
  obtain ⟨t, pa, q⟩ := ha
  exact ⟨_, ps_set h.nd h.at_ h.loc pa (noComp_ok hc _ _ _) h.fn, asg_sound h hm q⟩
theorem snd_asgL {x : Str} {i : Nat} {p : Pos} (h : NmOk X ks x i) (hl : X.env.scope.names.lookup x = some .local) (hm : m.to (kd ks i) = true) (hsw : swapsWith a (some (.Name x p)) pos.line X.env = pure true) (ha : SndLC X φ ks cl E a a' m ea) : SndS X φ ks cl E rm (.Assign [.Name x p] a pos) (.asg i a') (ea ++ [i]) [i] := by
  obtain ⟨t, pa, ps, q⟩ := ha
  exact ⟨_, ps i x p pos h.at_ hl hsw, asg_sound h hm q⟩
theorem snd_asgF {x : Str} {i : Nat} {p : Pos} (h : NmOk X ks x i) (hm : m.to (kd ks i) = true) (hsw : swapsWith a (some (.Name x p)) pos.line X.env = pure false) (ha : SndE X φ ks cl E a a' m ea) : SndS X φ ks cl E rm (.Assign [.Name x p] a pos) (.asg i a') (ea ++ [i]) [i] := by
  obtain ⟨t, pa, q⟩ := ha
  exact ⟨_, ps_set h.nd h.at_ h.loc pa hsw h.fn, asg_sound h hm q⟩
end
end CW
/-! Statements that change a name's own cells. -/
namespace CW
open PySem L2
section
variable {X : Cx} {φ : FEnv} {ks : List Kd} {cl : Nat → Addr} {E : L2.St → XK} {rm : Md} {G G1 G2 G' : Addr → Prop} {H H0 H' H1 H2 : Hp} {σ σ1 σ2 : L2.St} {Γ Γ1 Γ2 Γ' : Env} {Φ Φ0 Φ1 Φ2 Φ' : Nat → List Addr}
variable {m me m1 ma mb : Md} {eff eff' ea eb ec own w w' : List Nat} {pos : Pos} {F F' : List Addr} {v : V} {d : D} {vs : List V} {ds outs : List D} {K : PySem.W.Frag} {a b e c : Expr} {a' b' ir : CW.E} {st : Stmt} {sts : List Stmt} {s' : S} {ss : List S} {D0 : Ends}
/-- a name's own value changed in one of its cells -/
theorem SI.chgD {i : Nat} {p : Addr} {ws : List V} {F3 : List Addr} (I : SI K ks G H σ Γ Φ) (hv : σ[i]? = some (some v)) (hpi : p ∈ Φ i) (hi : i < σ.length)
    (o : Own K ((kd ks i).g G) (upd H p (.lst ws)) F3 v d) (hk : (kd ks i).fr = false) (hne : kd ks i = .os → F3 ≠ []) (t : Tmp G (upd H p (.lst ws)) (pu Φ i []) F3) :
    SI K ks G (upd H p (.lst ws)) σ (CW.put Γ i d) (pu Φ i F3) := by
  obtain ⟨xs, hp⟩ := I.mut i p hpi
  have kp : Kp (fun q => q = p) H (upd H p (.lst ws)) := fun q o e n => by
    rw [upd_ne n]
    exact e
  have w : Wl (fun q => q = p) H := fun q e o h => by
    subst e
    rw [hp] at h
    exact ⟨xs, (Option.some.inj h).symm⟩
  have I0 : SI K ks G (upd H p (.lst ws)) σ (Γ.set i none) (pu Φ i []) := by
    have I1 := I.drop i
    refine ⟨I1.len, I1.kl, fun j d hj => ?_, I1.non, I1.sh, I1.os, I1.dis, I1.gd, fun q g h => ?_⟩
    · obtain ⟨v, a, b⟩ := I1.slot j d hj
      refine ⟨v, a, b.keep kp w (fun q g e => ?_) (fun _ h => h) fun q hq e => ?_⟩
      · subst e
        exact I.gd i q hpi (Kd.g_le q g)
      · subst e
        rcases pu_mem hq with ⟨_, h⟩ | ⟨hji, h⟩
        · exact nomatch h
        · exact I.dis j i hji q h hpi
    · by_cases e : q = p
      · subst e
        rw [upd_same] at h
        cases h
      · rw [upd_ne e] at h
        exact I.gl q g h
  have e2 : ∀ F, pu (pu Φ i []) i F = pu Φ i F := fun F => by
    funext j
    unfold pu
    split <;> rfl
  have := I0.put (i := i) (F := F3) (v := v) (d := d) hi o (fun h => by rw [hk] at h; cases h) hne (by rw [e2]; exact t)
  have e3 : σ.set i (some v) = σ := by
    apply List.ext_getElem?
    intro j
    by_cases h : i = j
    · subst h
      rw [List.getElem?_set_self hi, hv]
    · rw [List.getElem?_set_ne h]
  rw [List.set_set, e2, e3] at this
  exact this
theorem chg_step {i : Nat} {p : Addr} {x : HO} {F3 : List Addr} (s1 : Step ea G H Φ Γ G1 H1 Φ1 Γ1) (hpi : p ∈ Φ1 i) (hp : H1 p ≠ none) (hF : ∀ q ∈ F3, q ∈ Φ1 i ∨ H q = none ∨ ∃ j ∈ ea, q ∈ Φ j) :
    Step (ea ++ [i]) G H Φ Γ G1 (upd H1 p x) (pu Φ1 i F3) (put Γ1 i d) := by
  have org : ∀ q ∈ Φ1 i, (∃ l ∈ ea ++ [i], q ∈ Φ l) ∨ H q = none := fun q hq => by
    by_cases hi : i ∈ ea
    · rcases s1.fn i hi q hq with ⟨l, hl, z⟩ | z
      · exact .inl ⟨l, List.mem_append_left _ hl, z⟩
      · exact .inr z
    · rw [(s1.fx i hi).1] at hq
      exact .inl ⟨i, List.mem_append_right _ (List.mem_singleton.mpr rfl), hq⟩
  refine ⟨s1.g, fun q g => ?_, fun q o h n => ?_, fun j hj => ?_, fun j hj q hq => ?_, fun q h => ?_⟩
  · rcases s1.gn q g with q | q | ⟨j, hj, q⟩
    · exact .inl q
    · exact .inr (.inl q)
    · exact .inr (.inr ⟨j, List.mem_append_left _ hj, q⟩)
  · have hne : q ≠ p := fun e => by
      subst e
      rcases org q hpi with ⟨l, hl, z⟩ | z
      · exact n l hl z
      · rw [z] at h
        cases h
    rw [upd_ne hne]
    exact s1.kp q o h fun j hj => n j (List.mem_append_left _ hj)
  · have hji : j ≠ i := fun q => hj (List.mem_append_right _ (List.mem_singleton.mpr q))
    unfold put
    rw [pu_ne hji, List.getElem?_set_ne hji.symm]
    exact s1.fx j fun q => hj (List.mem_append_left _ q)
  · rcases pu_mem hq with ⟨_, z⟩ | ⟨hji, z⟩
    · rcases hF q z with h | h | ⟨l, hl, h⟩
      · exact org q h
      · exact .inr h
      · exact .inl ⟨l, List.mem_append_left _ hl, h⟩
    · rcases List.mem_append.mp hj with hj | hj
      · rcases s1.fn j hj q z with ⟨l, hl, z⟩ | z
        · exact .inl ⟨l, List.mem_append_left _ hl, z⟩
        · exact .inr z
      · exact absurd (List.mem_singleton.mp hj) hji
  · by_cases e : q = p
    · subst e
      rw [upd_same] at h
      cases h
    · rw [upd_ne e] at h
      exact s1.ex q h
/-- what may go into a name's own cells -/
def Kd.el (k : Kd) (m : Md) : Bool := match k with
  | .ow => m.le .ow
  | .os => m.le .os
  | _ => false
theorem el_own {k : Kd} (h : k.el m = true) (r : Res K m G H Φ F v d) : Own K (k.g G) H F v d ∧ Tmp G H Φ F ∧ k.fr = false := by
  cases k with
  | im => cases h
  | sh => cases h
  | ow => exact ⟨(r.el (m' := .ow) h).1, (r.el (m' := .ow) h).2, rfl⟩
  | os => exact ⟨(r.el (m' := .os) h).1, (r.el (m' := .os) h).2, rfl⟩
theorem el_org {k : Kd} (h : k.el m = true) (r : Res K m G H Φ F v d) (o : Org m eff H0 Φ0 F) : ∀ q ∈ F, H0 q = none ∨ ∃ j ∈ eff, q ∈ Φ0 j := fun q hq => by
  cases m with
  | im => rw [r.1] at hq; exact nomatch hq
  | sh => rw [r.1] at hq; exact nomatch hq
  | ow => exact o rfl q hq
  | os => exact o rfl q hq
  | rd _ => cases k <;> cases h
theorem lsAt_cases (Γ : Env) (i : Nat) : (∃ ds, get Γ i = some (.lst ds) ∧ lsAt Γ i = .ok () Γ) ∨ lsAt Γ i = .bad := by
  unfold lsAt
  split
  · exact .inl ⟨_, by assumption, rfl⟩
  · exact .inr rfl
theorem upd_kp {p : Addr} {x : HO} : Kp (fun q => q = p) H (upd H p x) := fun q o e n => by
  rw [upd_ne n]
  exact e
theorem upd_wl {p : Addr} {xs : List V} (hp : H p = some (.lst xs)) : Wl (fun q => q = p) H := fun q e o h => by
  subst e
  rw [hp] at h
  exact ⟨xs, (Option.some.inj h).symm⟩
theorem upd_nn {p q : Addr} {x : HO} (h : H q ≠ none) : upd H p x q ≠ none := fun z => by
  by_cases e : q = p
  · subst e
    rw [upd_same] at z
    cases z
  · rw [upd_ne e] at z
    exact h z
theorem tmp_grow {i p : Nat} {x : HO} (t : Tmp G H Φ F) : Tmp G (upd H p x) (pu Φ i []) F := fun q hq => by
  obtain ⟨a, b, c⟩ := t q hq
  refine ⟨a, fun j hj => ?_, upd_nn c⟩
  rcases pu_mem hj with ⟨_, z⟩ | ⟨_, z⟩
  · exact nomatch z
  · exact b j z
theorem tmp_self {i p : Nat} {x : HO} (I : SI K ks G H σ Γ Φ) (h : ∀ q ∈ F, q ∈ Φ i) : Tmp G (upd H p x) (pu Φ i []) F := fun q hq => by
  obtain ⟨a, b, c⟩ := I.dropTmp i q (h q hq)
  exact ⟨a, b, upd_nn c⟩
theorem tmp_app (h : Tmp G H Φ F) (h' : Tmp G H Φ F') : Tmp G H Φ (F ++ F') := fun q hq => (List.mem_append.mp hq).elim (h q) (h' q)
/-- something goes into a list of one's own: the shape of append and of extend -/
theorem own_cases {i : Nat} {k : Unit → Env → SR} (h : DenS X ks cl E rm eff w ((lsAt Γ i).toS k) G H σ Γ Φ D0) : ∃ ds, get Γ i = some (.lst ds) ∧ DenS X ks cl E rm eff w (k () Γ) G H σ Γ Φ D0 := by
  rcases lsAt_cases Γ i with ⟨ds0, hg0, hls⟩ | hls
  · rw [hls, toS_ok] at h
    exact ⟨ds0, hg0, h⟩
  · rw [hls] at h
    exact h.elim
theorem get_step {i : Nat} (s1 : Step ea G H Φ Γ G1 H1 Φ1 Γ1) (hoff : i ∉ ea) : get Γ1 i = get Γ i := by
  have := (s1.fx i hoff).2
  unfold get
  rw [this]
theorem el_fr {k : Kd} (h : k.el m = true) : k.fr = false := by
  cases k <;> first | rfl | cases h
theorem snd_app {x : Str} {i : Nat} {p ap cp : Pos} (hN : X.N[i]? = some x) (hv : Vis X.env.scope x) (h1 : (x == ("__debug__" : Str)) = false) (h2 : (x == ("__classdict__" : Str)) = false) (hs : noStar a = true) (hl : (ap.endLine == cp.line) = true)
    (hk : (kd ks i).el ma = true) (ha : SndE X φ ks cl E a a' ma ea) (hoff : i ∉ ea) :
    SndS X φ ks cl E rm (.Expr (.Call (.Attribute (.Name x p) "append" ap) [a] [] cp) pos) (.app i a') (ea ++ [i]) [] := by
  obtain ⟨ta, pa, qa⟩ := ha
  refine ⟨_, ps_expr (pe_bm PySem.F.plainAttrs_list PySem.F.slot_list_append PySem.F.type_list_append mt_append (pe_var hN hv h1 h2) (pa_cons pa pa_nil (noStar_ok hs _)) (by rfl) (few1 hs _ _) hl (noStar_ok hs _)), fun G H σ Γ Φ D0 I h => ?_⟩
  simp only [evS] at h
  obtain ⟨ds0, hg0, h⟩ := own_cases h
  have hf := el_fr hk
  obtain ⟨p0, vs0, F0, e0, _, _, hp0, _⟩ := I.own hf hg0
  refine ⟨.ref p0, e0, .inl ⟨rfl, _, SqL.of hp0⟩, ?_⟩
  refine qa G H σ Γ Φ _ I ?_
  cases hev : evE φ a' Γ with
  | bad => rw [hev] at h; exact h.elim
  | exc k Γ1 =>
    rw [hev] at h
    exact fun G1 H1 Φ1 I1 s1 => h G1 H1 σ Φ1 I1 (s1.wider sub_l) Agr.refl
  | ok d Γ1 =>
    rw [hev, toS_ok] at h
    intro G1 H1 Φ1 w I1 s1 ⟨F1, r1, o1⟩
    have hg : get Γ1 i = some (.lst ds0) := by rw [get_step s1 hoff]; exact hg0
    rw [hg] at h
    simp only at h
    split at h
    · rename_i hz
      obtain ⟨p1, vs, F2, e1, hΦ, hi, hp, o, n, z0⟩ := I1.own hf hg
      rw [e0] at e1
      cases e1
      obtain ⟨oe, te, _⟩ := el_own hk r1
      have og := el_org hk r1 o1
      have hpi : p0 ∈ Φ1 i := by rw [hΦ]; exact List.mem_cons_self
      have hne : ∀ q ∈ F1, q ≠ p0 := fun q hq e => (te q hq).2.1 i (e ▸ hpi)
      have hll := o.len
      refine ⟨p0, vs, w, rfl, rfl, hp, by omega, ?_⟩
      have kp : Kp (fun q => q = p0) H1 (upd H1 p0 (.lst (vs ++ [w]))) := upd_kp
      have wl := upd_wl hp
      have gok : ∀ q, (kd ks i).g G1 q → ¬ q = p0 := fun q g e => I1.gd i q (e ▸ hpi) (Kd.g_le q g)
      have o' : Own X.K ((kd ks i).g G1) (upd H1 p0 (.lst (vs ++ [w]))) (p0 :: (F2 ++ F1)) (.ref p0) (.lst (ds0 ++ [d])) := by
        refine .lst upd_same (OwnL.keep kp wl gok (fun _ h => h) (o.snoc oe fun q hq hq' => (te q hq').2.1 i (by rw [hΦ]; exact List.mem_cons_of_mem _ hq)) fun q hq => ?_) (fun hq => ?_) (by rw [List.length_append]; simp; omega)
        · rcases List.mem_append.mp hq with hq | hq
          · exact fun e => n (e ▸ hq)
          · exact hne q hq
        · rcases List.mem_append.mp hq with hq | hq
          · exact n hq
          · exact hne p0 hq rfl
      have hF2 : ∀ q ∈ p0 :: F2, q ∈ Φ1 i := fun q hq => by rw [hΦ]; exact hq
      refine h G1 _ _ _ (I1.chgD e0 hpi hi o' hf (fun _ h => nomatch h) (tmp_app (F := p0 :: F2) (F' := F1) (tmp_self I1 hF2) (tmp_grow te))) (chg_step s1 hpi (by rw [hp]; exact fun h => nomatch h) fun q hq => ?_) Agr.refl
      rcases List.mem_append.mp (show q ∈ (p0 :: F2) ++ F1 from hq) with hq | hq
      · exact .inl (hF2 q hq)
      · exact .inr (og q hq)
    · exact h.elim
theorem OwnL.cat : ∀ {F F' : List Addr} {vs ws : List V} {ds es : List D}, OwnL K G H F vs ds → OwnL K G H F' ws es → (∀ p ∈ F, p ∉ F') → OwnL K G H (F ++ F') (vs ++ ws) (ds ++ es)
  | _, _, _, _, _, _, .nil, h', _ => h'
  | _, _, _, _, _, _, .cons (F := A) (F' := B) h t n, h', d => by
    rw [List.append_assoc]
    refine .cons h (OwnL.cat t h' fun p hp => d p (List.mem_append_right _ hp)) fun p hp hq => ?_
    rcases List.mem_append.mp hq with hq | hq
    · exact n p hp hq
    · exact d p (List.mem_append_left _ hp) hq
theorem snd_ext {x : Str} {i : Nat} {p ap cp : Pos} (hN : X.N[i]? = some x) (hv : Vis X.env.scope x) (h1 : (x == ("__debug__" : Str)) = false) (h2 : (x == ("__classdict__" : Str)) = false) (hs : noStar a = true) (hl : (ap.endLine == cp.line) = true)
    (hk : (kd ks i).el ma = true) (ha : SndE X φ ks cl E a a' ma ea) (hoff : i ∉ ea) :
    SndS X φ ks cl E rm (.Expr (.Call (.Attribute (.Name x p) "extend" ap) [a] [] cp) pos) (.ext i a') (ea ++ [i]) [] := by
  obtain ⟨ta, pa, qa⟩ := ha
  refine ⟨_, ps_expr (pe_bm PySem.F.plainAttrs_list PySem.F.slot_list_extend PySem.F.type_list_extend mt_extend (pe_var hN hv h1 h2) (pa_cons pa pa_nil (noStar_ok hs _)) (by rfl) (few1 hs _ _) hl (noStar_ok hs _)), fun G H σ Γ Φ D0 I h => ?_⟩
  simp only [evS] at h
  obtain ⟨ds0, hg0, h⟩ := own_cases h
  have hf := el_fr hk
  obtain ⟨p0, vs0, F0, e0, _, _, hp0, _⟩ := I.own hf hg0
  refine ⟨.ref p0, e0, .inl ⟨rfl, _, SqL.of hp0⟩, ?_⟩
  refine qa G H σ Γ Φ _ I ?_
  cases hev : evE φ a' Γ with
  | bad => rw [hev] at h; exact h.elim
  | exc k Γ1 =>
    rw [hev] at h
    exact fun G1 H1 Φ1 I1 s1 => h G1 H1 σ Φ1 I1 (s1.wider sub_l) Agr.refl
  | ok d Γ1 =>
    rw [hev, toS_ok] at h
    intro G1 H1 Φ1 w I1 s1 ⟨F1, r1, o1⟩
    have hg : get Γ1 i = some (.lst ds0) := by rw [get_step s1 hoff]; exact hg0
    rw [hg] at h
    cases d <;> first | exact h.elim | skip
    rename_i es
    simp only at h
    split at h
    · rename_i hz
      obtain ⟨p1, vs, F2, e1, hΦ, hi, hp, o, n, z0⟩ := I1.own hf hg
      rw [e0] at e1
      cases e1
      obtain ⟨oe, te, _⟩ := el_own hk r1
      have og := el_org hk r1 o1
      have hpi : p0 ∈ Φ1 i := by rw [hΦ]; exact List.mem_cons_self
      have hne : ∀ q ∈ F1, q ≠ p0 := fun q hq e => (te q hq).2.1 i (e ▸ hpi)
      have hll := o.len
      obtain ⟨b, us, A, rfl, hb, oA, fA⟩ : ∃ b us A, w = .ref b ∧ H1 b = some (.lst us) ∧ OwnL X.K ((kd ks i).g G1) H1 A us es ∧ ∀ q ∈ A, q ∈ F1 := by
        cases oe with
        | frz g hp t z => exact ⟨_, _, [], rfl, hp, t, fun _ h => nomatch h⟩
        | lst hp t n z => exact ⟨_, _, _, rfl, hp, t, fun q hq => List.mem_cons_of_mem _ hq⟩
      have hlA := oA.len
      refine ⟨p0, b, vs, us, rfl, rfl, hp, hb, by omega, ?_⟩
      have kp : Kp (fun q => q = p0) H1 (upd H1 p0 (.lst (vs ++ us))) := upd_kp
      have wl := upd_wl hp
      have gok : ∀ q, (kd ks i).g G1 q → ¬ q = p0 := fun q g e => I1.gd i q (e ▸ hpi) (Kd.g_le q g)
      have o' : Own X.K ((kd ks i).g G1) (upd H1 p0 (.lst (vs ++ us))) (p0 :: (F2 ++ A)) (.ref p0) (.lst (ds0 ++ es)) := by
        refine .lst upd_same (OwnL.keep kp wl gok (fun _ h => h) (o.cat oA fun q hq hq' => (te q (fA q hq')).2.1 i (by rw [hΦ]; exact List.mem_cons_of_mem _ hq)) fun q hq => ?_) (fun hq => ?_) (by rw [List.length_append]; omega)
        · rcases List.mem_append.mp hq with hq | hq
          · exact fun e => n (e ▸ hq)
          · exact hne q (fA q hq)
        · rcases List.mem_append.mp hq with hq | hq
          · exact n hq
          · exact hne p0 (fA p0 hq) rfl
      have hF2 : ∀ q ∈ p0 :: F2, q ∈ Φ1 i := fun q hq => by rw [hΦ]; exact hq
      refine h G1 _ _ _ (I1.chgD e0 hpi hi o' hf (fun _ h => nomatch h) (tmp_app (F := p0 :: F2) (F' := A) (tmp_self I1 hF2) (tmp_grow fun q hq => te q (fA q hq)))) (chg_step s1 hpi (by rw [hp]; exact fun h => nomatch h) fun q hq => ?_) Agr.refl
      rcases List.mem_append.mp (show q ∈ (p0 :: F2) ++ A from hq) with hq | hq
      · exact .inl (hF2 q hq)
      · exact .inr (og q (fA q hq))
    · exact h.elim
end
end CW
/-! Statements: the rest. -/
namespace CW
open PySem L2
section
variable {X : Cx} {φ : FEnv} {ks : List Kd} {cl : Nat → Addr} {E : L2.St → XK} {rm : Md} {G G0 G1 G2 G' : Addr → Prop} {H H0 H' H1 H2 : Hp} {σ σ1 σ2 : L2.St} {Γ Γ0 Γ1 Γ2 Γ' : Env} {Φ Φ0 Φ1 Φ2 Φ' : Nat → List Addr}
variable {m me m1 ma mb ms : Md} {eff eff' ea eb ec eg own w w' wa wb : List Nat} {pos : Pos} {F F' : List Addr} {v : V} {d : D} {vs : List V} {ds outs : List D} {K : PySem.W.Frag} {a b e c : Expr} {a' b' c' ir : CW.E} {st : Stmt} {sts sts' : List Stmt} {s' : S} {ss ss' : List S} {D0 D1 : Ends} {r : SR}
theorem DenS.shift (h : DenS X ks cl E rm eff w r G H σ Γ Φ D0) (s1 : Step ea G H Φ Γ G1 H1 Φ1 Γ1) (a1 : Agr wa σ σ1) (sub : ∀ i ∈ ea, i ∈ eff) (sw : ∀ i ∈ wa, i ∈ w) : DenS X ks cl E rm eff w r G1 H1 σ1 Γ1 Φ1 D0 := by
  have tr : ∀ {G' H' Φ' Γ'}, Step eff G1 H1 Φ1 Γ1 G' H' Φ' Γ' → Step eff G H Φ Γ G' H' Φ' Γ' := fun s2 => (s1.trans s2).wider fun i hi => by
    rcases List.mem_append.mp hi with hi | hi
    · exact sub i hi
    · exact hi
  have ta : ∀ {σ'}, Agr w σ1 σ' → Agr w σ σ' := fun ag => (a1.trans ag).wider fun i hi => by
    rcases List.mem_append.mp hi with hi | hi
    · exact sw i hi
    · exact hi
  have og : ∀ {F}, Org rm eff H1 Φ1 F → Org rm eff H Φ F := fun o => (Org.back s1 o).mono fun i hi => by
    rcases List.mem_append.mp hi with hi | hi
    · exact sub i hi
    · exact hi
  cases r with
  | nx Γ2 => exact fun G' H' σ' Φ' I' s' ag => h G' H' σ' Φ' I' (tr s') (ta ag)
  | rt d Γ2 => exact fun G' H' σ' Φ' F v I' s' ag r o => h G' H' σ' Φ' F v I' (tr s') (ta ag) r (og o)
  | bk Γ2 => exact fun G' H' σ' Φ' I' s' ag => h G' H' σ' Φ' I' (tr s') (ta ag)
  | exc c Γ2 => exact fun G' H' σ' Φ' I' s' ag => h G' H' σ' Φ' I' (tr s') (ta ag)
  | bad => exact h
theorem DenS.less (h : DenS X ks cl E rm eff w r G H σ Γ Φ D0) (sub : ∀ i ∈ ea, i ∈ eff) (sw : ∀ i ∈ wa, i ∈ w) : DenS X ks cl E rm ea wa r G H σ Γ Φ D0 := by
  cases r with
  | nx Γ2 => exact fun G' H' σ' Φ' I' s' ag => h G' H' σ' Φ' I' (s'.wider sub) (ag.wider sw)
  | rt d Γ2 => exact fun G' H' σ' Φ' F v I' s' ag r o => h G' H' σ' Φ' F v I' (s'.wider sub) (ag.wider sw) r (o.mono sub)
  | bk Γ2 => exact fun G' H' σ' Φ' I' s' ag => h G' H' σ' Φ' I' (s'.wider sub) (ag.wider sw)
  | exc c Γ2 => exact fun G' H' σ' Φ' I' s' ag => h G' H' σ' Φ' I' (s'.wider sub) (ag.wider sw)
  | bad => exact h
/-- a turn of a loop -/
def SR.turn (r : SR) (k : Env → SR) : SR := match r with
  | .nx Γ => k Γ
  | .bk Γ => .nx Γ
  | r => r
theorem DenS.turn {k : Env → SR} (h : DenS X ks cl E rm eff w (r.turn k) G H σ Γ Φ D0) (hr : D1.rt = D0.rt) (hb : D1.bk = D0.nx)
    (hk : ∀ Γ1 G1 H1 σ1 Φ1, SI X.K ks G1 H1 σ1 Γ1 Φ1 → Step eff G H Φ Γ G1 H1 Φ1 Γ1 → Agr w σ σ1 → DenS X ks cl E rm eff w (k Γ1) G1 H1 σ1 Γ1 Φ1 D0 → D1.nx σ1 H1) :
    DenS X ks cl E rm eff w r G H σ Γ Φ D1 := by
  cases r with
  | nx Γ1 => exact fun G1 H1 σ1 Φ1 I1 s1 a1 => hk Γ1 G1 H1 σ1 Φ1 I1 s1 a1 (DenS.shift (r := k Γ1) (Γ := Γ) h s1 a1 (fun _ h => h) fun _ h => h)
  | rt d Γ1 =>
    intro G1 H1 σ1 Φ1 F v I1 s1 a1 r o
    rw [hr]
    exact h G1 H1 σ1 Φ1 F v I1 s1 a1 r o
  | bk Γ1 =>
    intro G1 H1 σ1 Φ1 I1 s1 a1
    rw [hb]
    exact h G1 H1 σ1 Φ1 I1 s1 a1
  | exc c Γ1 => exact h
  | bad => exact h.elim
/-! ### small statements -/
theorem snd_ex (hc : noComp a = true) (ha : SndE X φ ks cl E a a' m ea) : SndS X φ ks cl E rm (.Expr a pos) (.ex a') ea [] := by
  obtain ⟨t, pa, q⟩ := ha
  refine ⟨_, ps_expr pa (noComp_ok hc _ _ _), fun G H σ Γ Φ D0 I h => ?_⟩
  simp only [evS] at h
  refine q G H σ Γ Φ _ I (h.expr (fun _ h => h) fun d Γ1 G1 H1 Φ1 w I1 s1 r1 h1 => ?_)
  exact h1 G1 H1 σ Φ1 I1 Step.refl Agr.refl
theorem snd_pass : SndS X φ ks cl E rm (.Pass pos) .pass [] [] := ⟨_, ps_pass, fun G H σ Γ Φ D0 I h => h G H σ Φ I Step.refl Agr.refl⟩
theorem snd_doc {x : Str} {j : Nat} {p : Pos} : SndS X φ ks cl E rm (.Expr (.Constant (.str x) j p) pos) .pass [] [] := ⟨_, ps_doc, fun G H σ Γ Φ D0 I h => h G H σ Φ I Step.refl Agr.refl⟩
theorem snd_brk : SndS X φ ks cl E rm (.Break pos) .brk [] [] := ⟨_, ps_break, fun G H σ Γ Φ D0 I h => h G H σ Φ I Step.refl Agr.refl⟩
theorem snd_ite (hc : SndT X φ ks cl E c c' ec) (ha : SndSs X φ ks cl E rm sts ss ea wa) (hb : SndSs X φ ks cl E rm sts' ss' eb wb) : SndS X φ ks cl E rm (.If c sts sts' pos) (.ite c' ss ss') (ec ++ (ea ++ eb)) (wa ++ wb) := by
  obtain ⟨t, pc, qc⟩ := hc
  obtain ⟨u, pa, qa⟩ := ha
  obtain ⟨u', pb, qb⟩ := hb
  refine ⟨_, ps_if pc pa pb, fun G H σ Γ Φ D0 I h => ?_⟩
  simp only [evS] at h
  refine qc G H σ Γ Φ _ I (h.expr sub_l fun k Γ1 G1 H1 Φ1 b I1 s1 e1 h1 => ?_)
  subst e1
  cases b with
  | true =>
    rw [if_pos rfl] at h1 ⊢
    exact qa G1 H1 σ Γ1 Φ1 D0 I1 (DenS.less h1 (fun i hi => List.mem_append_right _ (List.mem_append_left _ hi)) sub_l)
  | false =>
    rw [if_neg Bool.false_ne_true] at h1 ⊢
    exact qb G1 H1 σ Γ1 Φ1 D0 I1 (DenS.less h1 (fun i hi => List.mem_append_right _ (List.mem_append_right _ hi)) sub_r)
/-- a value that has just come, from now on not changed -/
theorem SndE.frz (hm : m.tmp = true) (ha : SndE X φ ks cl E a a' m ea) : SndE X φ ks cl E a a' .sh ea := by
  obtain ⟨t, pa, q⟩ := ha
  refine ⟨t, pa, fun G H σ Γ Φ Q I h => q G H σ Γ Φ Q I ?_⟩
  cases hev : evE φ a' Γ with
  | bad => rw [hev] at h; exact h.elim
  | exc k Γ1 => rw [hev] at h; exact h
  | ok d Γ1 =>
    rw [hev] at h
    intro G1 H1 Φ1 v I1 s1 ⟨F, r, o⟩
    have ot : Own X.K G1 H1 F v d ∧ Tmp G1 H1 Φ1 F := by
      cases m with
      | ow => exact ⟨r.1.mono NoG.le, r.2⟩
      | os => exact ⟨r.1, r.2.1⟩
      | _ => cases hm
    refine h (fun p => G1 p ∨ p ∈ F) H1 Φ1 v (I1.freeze ot.2) ⟨fun p g => .inl (s1.g p g), fun p g => ?_, s1.kp, s1.fx, s1.fn, s1.ex⟩ ⟨[], ⟨rfl, ot.1.freeze (fun _ h => .inl h) fun _ h => .inr h⟩, fun h => nomatch h⟩
    rcases g with g | g
    · exact s1.gn p g
    · exact .inr (o hm p g)
/-- what a def may hand back -/
def Md.ret (m rm : Md) : Bool := match m, rm with
  | .im, .im => true
  | .im, .sh => true
  | .im, .ow => true
  | .sh, .sh => true
  | .ow, .ow => true
  | .os, .os => true
  | _, _ => false
theorem ret_res (h : m.ret rm = true) (r : Res K m G H Φ F v d) (o : Org m eff H0 Φ0 F) : Res K rm G H Φ F v d ∧ Org rm eff H0 Φ0 F := by
  cases m <;> cases rm <;> first | (cases h; done) | exact ⟨r, o⟩ | skip
  · exact ⟨⟨r.1, r.2.mono NoG.le⟩, fun h => nomatch h⟩
  · obtain ⟨rfl, r⟩ := r
    exact ⟨⟨r, Tmp.nil⟩, fun _ _ h => nomatch h⟩
theorem snd_ret (hm : m.ret rm = true) (ha : SndE X φ ks cl E a a' m ea) : SndS X φ ks cl E rm (.Return (some a) pos) (.ret a') ea [] := by
  obtain ⟨t, pa, q⟩ := ha
  refine ⟨_, ps_ret pa, fun G H σ Γ Φ D0 I h => ?_⟩
  simp only [evS] at h
  refine q G H σ Γ Φ _ I ?_
  cases hev : evE φ a' Γ with
  | bad => rw [hev] at h; exact h.elim
  | exc k Γ1 =>
    rw [hev] at h
    exact fun G1 H1 Φ1 I1 s1 => h G1 H1 σ Φ1 I1 s1 Agr.refl
  | ok d Γ1 =>
    rw [hev, toS_ok] at h
    intro G1 H1 Φ1 v I1 s1 ⟨F, r, o⟩
    obtain ⟨r', o'⟩ := ret_res hm r o
    exact h G1 H1 σ Φ1 F v I1 s1 Agr.refl r' o'
theorem snd_asgT {es : List Expr} {k : Nat} {p : Pos} {ts : List Tg} (hm : ∀ vs k p, a ≠ .Tuple vs k p) (hc : noComp a = true) (hg : SndG X ks m (.Tuple es k p) (.tup ts)) (ha : SndE X φ ks cl E a a' m ea) :
    SndS X φ ks cl E rm (.Assign [.Tuple es k p] a pos) (.asgT ts a') (ea ++ Tg.slotsL ts) (Tg.slotsL ts) := by
  obtain ⟨t, pa, q⟩ := ha
  obtain ⟨g, pg, qg⟩ := hg
  refine ⟨_, ps_asg pa pg (by unfold swapsWithSole; exact noComp_ok hc _ _ _) (by cases a <;> first | rfl | exact absurd rfl (hm _ _ _)), fun G H σ Γ Φ D0 I h => ?_⟩
  simp only [evS] at h
  refine q G H σ Γ Φ _ I (h.expr sub_l fun d Γ1 G1 H1 Φ1 v I1 s1 ⟨F, r1, o1⟩ h1 => ?_)
  cases hb : Tg.bind (.tup ts) d Γ1 with
  | none => rw [hb] at h1; exact h1.elim
  | some Γ2 =>
    rw [hb] at h1
    refine qg G1 H1 σ Γ1 Γ2 Φ1 F v d _ I1 r1 hb fun σ' Φ' I' s' ag => h1 G1 H1 σ' Φ' I' (s'.wider ?_) fun j hj => ag j ?_
    · intro i hi
      exact List.mem_append_right _ (by simpa [Tg.slots] using hi)
    · simpa [Tg.slots] using hj
def Bop.ip : Bop → Option (Operator × (Int → Int → Int))
  | .add => some (.Add, fun i j => i + j)
  | .sub => some (.Sub, fun i j => i - j)
  | _ => none
theorem ip_ok {o : Bop} {op : Operator} {f : Int → Int → Int} (h : o.ip = some (op, f)) : PIp X op (ipI f) ∧ ∀ x y z, augSem o x y = some z → ∃ i j, x = .int i ∧ y = .int j ∧ z = .int (f i j) := by
  cases o <;> simp only [Bop.ip, Option.some.injEq, reduceCtorEq, Prod.mk.injEq] at h
  · obtain ⟨rfl, rfl⟩ := h
    refine ⟨ip_add, fun x y z hz => ?_⟩
    unfold augSem at hz
    split at hz <;> first | (cases hz; done) | (cases hz; exact ⟨_, _, rfl, rfl, rfl⟩) | skip
    all_goals rename_i e; cases e
  · obtain ⟨rfl, rfl⟩ := h
    refine ⟨ip_sub, fun x y z hz => ?_⟩
    unfold augSem at hz
    split at hz <;> first | (cases hz; done) | (cases hz; exact ⟨_, _, rfl, rfl, rfl⟩) | skip
    all_goals rename_i e; cases e
theorem snd_aug {o : Bop} {op : Operator} {f : Int → Int → Int} {x : Str} {i : Nat} {p : Pos} (ho : o.ip = some (op, f)) (h : NmOk X ks x i) (hk : kd ks i = .im ∨ kd ks i = .ow ∨ kd ks i = .sh) (ha : SndE X φ ks cl E a a' m ea) (hoff : i ∉ ea) :
    SndS X φ ks cl E rm (.AugAssign (.Name x p) op a pos) (.aug i o a') (ea ++ [i]) [i] := by
  obtain ⟨t, pa, q⟩ := ha
  obtain ⟨pi, hs⟩ := ip_ok (X := X) ho
  refine ⟨_, ps_aug h.nd h.at_ h.loc pa pi h.fn, fun G H σ Γ Φ D0 I hh => ?_⟩
  simp only [evS] at hh
  cases hg : get Γ i with
  | none => rw [hg] at hh; exact hh.elim
  | some x0 =>
    rw [hg] at hh
    simp only [ofo_some, toS_ok] at hh
    obtain ⟨v0, e0, o0⟩ := I.slot i _ (gets hg)
    refine ⟨v0, e0, q G H σ Γ Φ _ I ?_⟩
    cases hev : evE φ a' Γ with
    | bad => rw [hev] at hh; exact hh.elim
    | exc k Γ1 =>
      rw [hev] at hh
      exact fun G1 H1 Φ1 I1 s1 => hh G1 H1 σ Φ1 I1 (s1.wider sub_l) Agr.refl
    | ok d Γ1 =>
      rw [hev, toS_ok] at hh
      intro G1 H1 Φ1 v I1 s1 ⟨F, r, o⟩
      cases hz : augSem ‹Bop› x0 d with
      | none => rw [hz] at hh; exact hh.elim
      | some z =>
        rw [hz] at hh
        simp only [ofo_some, toS_ok] at hh
        obtain ⟨n, n', rfl, rfl, rfl⟩ := hs _ _ _ hz
        have o1 := r.own
        cases o1
        generalize Φ i = Fi at o0
        cases o0
        refine ⟨n, n', rfl, rfl, ?_⟩
        have hm : Md.to .im (kd ks i) = true := by rcases hk with k | k | k <;> rw [k] <;> rfl
        obtain ⟨I2, _⟩ := I1.store (H0 := H) (Φ0 := Φ) (F := []) (m := .im) (v := .int (f n n')) (d := .int (f n n')) h.lt ⟨rfl, .int⟩ hm
        refine hh G1 H1 _ _ I2 ⟨s1.g, fun p g => ?_, fun p u e n => s1.kp p u e fun j hj => n j (List.mem_append_left _ hj), fun j hj => ?_, fun j hj p hp => ?_, s1.ex⟩ fun j hj => List.getElem?_set_ne fun q => hj (List.mem_singleton.mpr q.symm)
        · rcases s1.gn p g with q | q | ⟨j, hj, q⟩
          · exact .inl q
          · exact .inr (.inl q)
          · exact .inr (.inr ⟨j, List.mem_append_left _ hj, q⟩)
        · have hji : j ≠ i := fun q => hj (List.mem_append_right _ (List.mem_singleton.mpr q))
          unfold put
          rw [pu_ne hji, List.getElem?_set_ne hji.symm]
          exact s1.fx j fun q => hj (List.mem_append_left _ q)
        · rcases pu_mem hp with ⟨_, q⟩ | ⟨hji, q⟩
          · exact nomatch q
          · rcases List.mem_append.mp hj with hj | hj
            · rcases s1.fn j hj p q with ⟨l, hl, z⟩ | z
              · exact .inl ⟨l, List.mem_append_left _ hl, z⟩
              · exact .inr z
            · exact absurd (List.mem_singleton.mp hj) hji
/-! ### loops -/
theorem whN_turn {test : Env → R Bool} {body : Env → SR} {n : Nat} : whN test body (n + 1) Γ = (test Γ).toS fun k Γ => if k then (body Γ).turn (whN test body n) else .nx Γ := by
  rw [whN]
  rfl
theorem forL_turn {turn : D → Env → SR} : forL turn (d :: ds) Γ = (turn d Γ).turn (forL turn ds) := by
  rw [forL]
  rfl
theorem snd_wh (hp : PassesOwn (model X.prog X.w) X.A X.env X.xe) (hc : SndT X φ ks cl E c c' ec) (ha : SndSs X φ ks cl E rm sts ss ea wa) : SndS X φ ks cl E rm (.While c sts [] pos) (.wh c' ss) (ec ++ ea) wa := by
  obtain ⟨t, pc, qc⟩ := hc
  obtain ⟨u, pa, qa⟩ := ha
  refine ⟨_, ps_while hp pc pa, fun G H σ Γ Φ D0 I h => ?_⟩
  simp only [evS] at h
  refine ⟨fun n σ H => ∃ G Γ Φ, SI X.K ks G H σ Γ Φ ∧ DenS X ks cl E rm (ec ++ ea) wa (whN (fun Γ => evC φ (some c') Γ) (fun Γ => evSs φ ss Γ) n Γ) G H σ Γ Φ D0, ⟨_, G, Γ, Φ, I, h⟩, ?_⟩
  clear h I
  rintro n σ H ⟨G, Γ, Φ, I, h⟩
  cases n with
  | zero => exact h.elim
  | succ n =>
    rw [whN_turn] at h
    refine qc G H σ Γ Φ _ I (h.expr sub_l fun k Γ1 G1 H1 Φ1 b I1 s1 e1 h1 => ?_)
    subst e1
    cases b with
    | true =>
      simp only [if_pos] at h1 ⊢
      refine ⟨fun σ H => ∃ G Γ Φ, SI X.K ks G H σ Γ Φ ∧ DenS X ks cl E rm (ec ++ ea) wa (whN (fun Γ => evC φ (some c') Γ) (fun Γ => evSs φ ss Γ) n Γ) G H σ Γ Φ D0, fun σ' H' p => ⟨n, Nat.lt_succ_self n, p⟩, ?_⟩
      refine qa G1 H1 σ Γ1 Φ1 _ I1 (DenS.less (h1.turn rfl rfl fun Γ2 G2 H2 σ2 Φ2 I2 s2 a2 h2 => ⟨G2, Γ2, Φ2, I2, h2⟩) sub_r fun _ h => h)
    | false =>
      simp only [Bool.false_eq_true, if_false] at h1 ⊢
      exact h1 G1 H1 σ Φ1 I1 Step.refl Agr.refl
end
end CW
/-! Loops over lists, tuples, ranges; raise. -/
namespace CW
open PySem L2
section
variable {X : Cx} {φ : FEnv} {ks : List Kd} {cl : Nat → Addr} {E : L2.St → XK} {rm : Md} {G G0 G1 G2 G' : Addr → Prop} {H H0 H' H1 H2 : Hp} {σ σ1 σ2 : L2.St} {Γ Γ0 Γ1 Γ2 Γ' : Env} {Φ Φ0 Φ1 Φ2 Φ' : Nat → List Addr}
variable {m me m1 ma mb ms : Md} {eff eff' es ea eb ec eg own w w' wa wb : List Nat} {pos : Pos} {F F' : List Addr} {v : V} {d : D} {vs : List V} {ds outs : List D} {K : PySem.W.Frag} {a b e c : Expr} {a' b' c' ir : CW.E} {st : Stmt} {sts sts' : List Stmt} {s' : S} {ss ss' : List S} {D0 D1 : Ends} {r : SR}
noncomputable def turnOf (φ : FEnv) (tg : Tg) (ss : List S) : D → Env → SR := fun d Γ => (R.ofo (Tg.bind tg d Γ) Γ).toS fun Γ _ => evSs φ ss Γ
theorem loop_turn {tgE : Expr} {tg : Tg} {g : TG} {tb : TS} {N : L2.St → Hp → Prop}
    (qg : ∀ (G : Addr → Prop) (H : Hp) (σ : L2.St) (Γ Γ' : Env) (Φ : Nat → List Addr) (F : List Addr) (v : V) (d : D) (Q : L2.St → Hp → Prop), SI X.K ks G H σ Γ Φ → Res X.K ms G H Φ F v d → Tg.bind tg d Γ = some Γ' →
      (∀ σ' Φ', SI X.K ks G H σ' Γ' Φ' → Step tg.slots G H Φ Γ G H Φ' Γ' → (∀ j, j ∉ tg.slots → σ'[j]? = σ[j]?) → Q σ' H) → g v σ H Q)
    (qb : ∀ G H σ Γ Φ (D0 : Ends), SI X.K ks G H σ Γ Φ → DenS X ks cl E rm ea wa (evSs φ ss Γ) G H σ Γ Φ D0 → tb D0 σ H)
    (I : SI X.K ks G H σ Γ Φ) (r : Res X.K ms G H Φ F v d) (h : DenS X ks cl E rm (tg.slots ++ ea) (tg.slots ++ wa) (forL (turnOf φ tg ss) (d :: ds) Γ) G H σ Γ Φ D0)
    (hk : ∀ G' H' σ' Γ' Φ', SI X.K ks G' H' σ' Γ' Φ' → Step (tg.slots ++ ea) G H Φ Γ G' H' Φ' Γ' → DenS X ks cl E rm (tg.slots ++ ea) (tg.slots ++ wa) (forL (turnOf φ tg ss) ds Γ') G' H' σ' Γ' Φ' D0 → N σ' H') :
    g v σ H fun σ2 H2 => tb { D0 with nx := N, ct := N, bk := D0.nx } σ2 H2 := by
  rw [forL_turn] at h
  unfold turnOf at h
  cases hb : Tg.bind tg d Γ with
  | none => rw [hb] at h; exact h.elim
  | some Γ1 =>
    rw [hb, ofo_some, toS_ok] at h
    refine qg G H σ Γ Γ1 Φ F v d _ I r hb fun σ1 Φ1 I1 s1 a1 => ?_
    have h1 := h.shift s1 (wa := tg.slots) a1 sub_l sub_l
    refine qb G H σ1 Γ1 Φ1 _ I1 (DenS.less (h1.turn rfl rfl fun Γ2 G2 H2 σ2 Φ2 I2 s2 a2 h2 => ?_) sub_r sub_r)
    refine hk G2 H2 σ2 Γ2 Φ2 I2 ((s1.trans s2).wider fun i hi => ?_) h2
    rcases List.mem_append.mp hi with hi | hi
    · exact List.mem_append_left _ hi
    · exact hi
theorem snd_forl {iter tgE : Expr} {iter' : CW.E} {tg : Tg} (hp : PassesOwn (model X.prog X.w) X.A X.env X.xe) (hc : X.calm = true) (hset : noSet iter = true) (hs : SndE X φ ks cl E iter iter' ms es) (ht : ms.tmp = false)
    (hg : SndG X ks ms tgE tg) (hb : SndSs X φ ks cl E rm sts ss ea wa) (hoff : ms.off (tg.slots ++ ea) = true) :
    SndS X φ ks cl E rm (.For tgE iter sts [] pos) (.forl false tg iter' ss) (es ++ (tg.slots ++ ea)) (tg.slots ++ wa) := by
  obtain ⟨t, p, q⟩ := hs
  obtain ⟨g, pg, qg⟩ := hg
  obtain ⟨u, pb, qb⟩ := hb
  refine ⟨_, ps_for hp hc (pi_list p) pg pb (noSet_ok hset _), fun G H σ Γ Φ D0 I h => ?_⟩
  simp only [evS] at h
  refine q G H σ Γ Φ _ I (h.expr sub_l fun x Γ1 G1 H1 Φ1 v I1 s1 r0 h1 => ?_)
  obtain ⟨F, r1, _⟩ := r0
  cases x <;> first | exact h1.elim | skip
  rename_i ds
  obtain ⟨a, us, F', rfl, ha, o1, f1, l1⟩ := r1.own.seq
  simp only [itemsOf, ofo_some, toS_ok] at h1
  have h2 : DenS X ks cl E rm (tg.slots ++ ea) (tg.slots ++ wa) (forL (turnOf φ tg ss) ds Γ1) G1 H1 σ Γ1 Φ1 D0 := DenS.less h1 sub_r fun _ h => h
  have cell : ∀ {G2 H2 Φ2 Γ2}, Step (tg.slots ++ ea) G1 H1 Φ1 Γ1 G2 H2 Φ2 Γ2 → H2 a = some (.lst us) := fun s => s.kp a _ ha (Res.kept I1 r1 ht hoff)
  refine ⟨a, rfl, ⟨us, SqL.of ha⟩, for_list (K := X.K) (a := a) (xs := us) (fun i σ' H' => ∃ G2 Γ2 Φ2, SI X.K ks G2 H' σ' Γ2 Φ2 ∧ Step (tg.slots ++ ea) G1 H1 Φ1 Γ1 G2 H' Φ2 Γ2 ∧ DenS X ks cl E rm (tg.slots ++ ea) (tg.slots ++ wa) (forL (turnOf φ tg ss) (ds.drop i) Γ2) G2 H' σ' Γ2 Φ2 D0) ?_ (fun i σ' H' _ ⟨G2, Γ2, Φ2, I2, s2, _⟩ => SqL.of (cell s2)) (fun i x σ' H' hx ⟨G2, Γ2, Φ2, I2, s2, h3⟩ => ?_) fun σ' H' ⟨G2, Γ2, Φ2, I2, s2, h3⟩ => ?_⟩
  · exact ⟨G1, Γ1, Φ1, I1, Step.refl, h2⟩
  · have hi : i < us.length := (List.getElem?_eq_some_iff.mp hx).1
    have hid : i < ds.length := by rw [← o1.len]; exact hi
    rw [List.drop_eq_getElem_cons hid] at h3
    have r2 := r1.step I1 s2 hoff
    obtain ⟨u, F2, it, q2⟩ := r2.item ht (ds := ds) rfl (List.getElem?_eq_getElem hid)
    have e : u = x := by
      obtain ⟨p', us', ep, hh, e3⟩ := it
      cases ep
      have ha2 := cell s2
      rcases hh with hh | hh <;> rw [ha2] at hh <;> cases hh
      rw [hx] at e3
      cases e3
      rfl
    subst e
    refine loop_turn (tgE := tgE) qg qb I2 q2 h3 fun G3 H3 σ3 Γ3 Φ3 I3 s3 h4 => ⟨G3, Γ3, Φ3, I3, (s2.trans s3).wider fun i hi => ?_, h4⟩
    rcases List.mem_append.mp hi with hi | hi <;> exact hi
  · rw [o1.len, List.drop_length, forL] at h3
    exact h3 G2 H' σ' Φ2 I2 Step.refl (Agr.refl)
theorem snd_fort {iter tgE : Expr} {iter' : CW.E} {tg : Tg} (hp : PassesOwn (model X.prog X.w) X.A X.env X.xe) (hc : X.calm = true) (hset : noSet iter = true) (hs : SndE X φ ks cl E iter iter' ms es) (ht : ms.tmp = false)
    (hg : SndG X ks ms tgE tg) (hb : SndSs X φ ks cl E rm sts ss ea wa) (hoff : ms.off (tg.slots ++ ea) = true) :
    SndS X φ ks cl E rm (.For tgE iter sts [] pos) (.forl true tg iter' ss) (es ++ (tg.slots ++ ea)) (tg.slots ++ wa) := by
  obtain ⟨t, p, q⟩ := hs
  obtain ⟨g, pg, qg⟩ := hg
  obtain ⟨u, pb, qb⟩ := hb
  refine ⟨_, ps_for hp hc (pi_tup p) pg pb (noSet_ok hset _), fun G H σ Γ Φ D0 I h => ?_⟩
  simp only [evS] at h
  refine q G H σ Γ Φ _ I (h.expr sub_l fun x Γ1 G1 H1 Φ1 v I1 s1 r0 h1 => ?_)
  obtain ⟨F, r1, _⟩ := r0
  cases x <;> first | exact h1.elim | skip
  rename_i ds
  obtain ⟨a, us, rfl, ha, o1, l1⟩ := r1.own.tups
  simp only [itemsOf, ofo_some, toS_ok] at h1
  have h2 : DenS X ks cl E rm (tg.slots ++ ea) (tg.slots ++ wa) (forL (turnOf φ tg ss) ds Γ1) G1 H1 σ Γ1 Φ1 D0 := DenS.less h1 sub_r fun _ h => h
  have cell : ∀ {G2 H2 Φ2 Γ2}, Step (tg.slots ++ ea) G1 H1 Φ1 Γ1 G2 H2 Φ2 Γ2 → H2 a = some (.tup us) := fun s => s.kp a _ ha fun i hi hp => by
    obtain ⟨xs, z⟩ := I1.mut i a hp
    rw [ha] at z
    exact (xs.nt (Option.some.inj z)).elim
  refine ⟨a, rfl, ⟨us, SqT.of ha⟩, for_tup (K := X.K) (a := a) (xs := us) (fun i σ' H' => ∃ G2 Γ2 Φ2, SI X.K ks G2 H' σ' Γ2 Φ2 ∧ Step (tg.slots ++ ea) G1 H1 Φ1 Γ1 G2 H' Φ2 Γ2 ∧ DenS X ks cl E rm (tg.slots ++ ea) (tg.slots ++ wa) (forL (turnOf φ tg ss) (ds.drop i) Γ2) G2 H' σ' Γ2 Φ2 D0) ?_ (fun i σ' H' _ ⟨G2, Γ2, Φ2, I2, s2, _⟩ => SqT.of (cell s2)) (fun i x σ' H' hx ⟨G2, Γ2, Φ2, I2, s2, h3⟩ => ?_) fun σ' H' ⟨G2, Γ2, Φ2, I2, s2, h3⟩ => ?_⟩
  · exact ⟨G1, Γ1, Φ1, I1, Step.refl, h2⟩
  · have hi : i < us.length := (List.getElem?_eq_some_iff.mp hx).1
    have hid : i < ds.length := by rw [← o1.len]; exact hi
    rw [List.drop_eq_getElem_cons hid] at h3
    have r2 := r1.step I1 s2 hoff
    obtain ⟨u, F2, it, q2⟩ := r2.item ht (ds := ds) rfl (List.getElem?_eq_getElem hid)
    have e : u = x := by
      obtain ⟨p', us', ep, hh, e3⟩ := it
      cases ep
      have ha2 := cell s2
      rcases hh with hh | hh <;> rw [ha2] at hh <;> cases hh
      rw [hx] at e3
      cases e3
      rfl
    subst e
    refine loop_turn (tgE := tgE) qg qb I2 q2 h3 fun G3 H3 σ3 Γ3 Φ3 I3 s3 h4 => ⟨G3, Γ3, Φ3, I3, (s2.trans s3).wider fun i hi => ?_, h4⟩
    rcases List.mem_append.mp hi with hi | hi <;> exact hi
  · rw [o1.len, List.drop_length, forL] at h3
    exact h3 G2 H' σ' Φ2 I2 Step.refl (Agr.refl)
theorem snd_forr {iter tgE : Expr} {irs : List CW.E} {tg : Tg} (hp : PassesOwn (model X.prog X.w) X.A X.env X.xe) (hc : X.calm = true) (hset : noSet iter = true) (hs : SndR X φ ks cl E iter irs es)
    (hg : SndG X ks .im tgE tg) (hb : SndSs X φ ks cl E rm sts ss ea wa) :
    SndS X φ ks cl E rm (.For tgE iter sts [] pos) (.forr tg irs ss) (es ++ (tg.slots ++ ea)) (tg.slots ++ wa) := by
  obtain ⟨t, p, q⟩ := hs
  obtain ⟨g, pg, qg⟩ := hg
  obtain ⟨u, pb, qb⟩ := hb
  refine ⟨_, ps_for hp hc (p _) pg pb (noSet_ok hset _), fun G H σ Γ Φ D0 I h => ?_⟩
  simp only [evS] at h
  have h' : DenS X ks cl E rm (es ++ (tg.slots ++ ea)) (tg.slots ++ wa) (((evEs φ irs Γ).bind fun ds Γ => R.ofo (rngD ds) Γ).toS fun p Γ => forL (turnOf φ tg ss) (rngL p.1 p.2) Γ) G H σ Γ Φ D0 := by
    cases hev : evEs φ irs Γ <;> rw [hev] at h <;> exact h
  refine q G H σ Γ Φ _ I (h'.expr sub_l fun x Γ1 G1 H1 Φ1 J I1 s1 eJ h1 => ?_)
  subst eJ
  have h2 : DenS X ks cl E rm (tg.slots ++ ea) (tg.slots ++ wa) (forL (turnOf φ tg ss) (rngL x.1 x.2) Γ1) G1 H1 σ Γ1 Φ1 D0 := DenS.less h1 sub_r fun _ h => h
  refine for_range (lo := x.1) (n := x.2) (fun i σ' H' => ∃ G2 Γ2 Φ2, SI X.K ks G2 H' σ' Γ2 Φ2 ∧ DenS X ks cl E rm (tg.slots ++ ea) (tg.slots ++ wa) (forL (turnOf φ tg ss) ((rngL x.1 x.2).drop i) Γ2) G2 H' σ' Γ2 Φ2 D0) ?_ (fun i σ' H' hi ⟨G2, Γ2, Φ2, I2, h3⟩ => ?_) fun σ' H' ⟨G2, Γ2, Φ2, I2, h3⟩ => ?_
  · exact ⟨G1, Γ1, Φ1, I1, h2⟩
  · have hid : i < (rngL x.1 x.2).length := by rw [rngL_len]; exact hi
    rw [List.drop_eq_getElem_cons hid] at h3
    have e := rngL_get (a := x.1) hi
    rw [List.getElem?_eq_getElem hid] at e
    have e' := Option.some.inj e
    rw [e'] at h3
    exact loop_turn (tgE := tgE) qg qb I2 (F := []) ⟨rfl, .int⟩ h3 fun G3 H3 σ3 Γ3 Φ3 I3 s3 h4 => ⟨G3, Γ3, Φ3, I3, h4⟩
  · have e : (rngL x.1 x.2).drop x.2 = [] := List.drop_eq_nil_of_le (by rw [rngL_len]; exact Nat.le_refl _)
    rw [e, forL] at h3
    exact h3 G2 H' σ' Φ2 I2 Step.refl (Agr.refl)
theorem snd_raise {n : Nat} (hc : X.calm = true) (tk : L2.Takes X fun cls d σ H => E σ cls d H) (he : L2.PMk X e fun _ H Q => Q (.ref (cl n)) none H) : SndS X φ ks cl E rm (.Raise (some e) none pos) (.raise n) [] [] :=
  ⟨_, ps_raise hc tk he, fun G H σ Γ Φ D0 I h => by
    simp only [evS] at h
    exact h G H σ Φ I Step.refl Agr.refl⟩
end
end CW
/-! A cell deep in a name's own value is written. -/
namespace CW
open PySem L2
def AtP (H : Hp) : V → List Int → V → Prop
  | v, [], u => v = u
  | v, i :: is, u => ∃ p us w, v = .ref p ∧ (H p = some (.lst us) ∨ H p = some (.tup us)) ∧ atI us i = some w ∧ AtP H w is u
section
variable {X : Cx} {φ : FEnv} {ks : List Kd} {cl : Nat → Addr} {E : L2.St → XK} {rm : Md} {G G0 G1 G2 G' : Addr → Prop} {H H0 H' H1 H2 : Hp} {σ σ1 σ2 : L2.St} {Γ Γ0 Γ1 Γ2 Γ' : Env} {Φ Φ0 Φ1 Φ2 Φ' : Nat → List Addr}
variable {m me mi m1 ma mb ms : Md} {eff eff' es ea eb ec ei ep own w w' wa wb : List Nat} {pos : Pos} {F F' : List Addr} {v : V} {d : D} {vs : List V} {ds outs : List D} {K : PySem.W.Frag} {a b e c : Expr} {a' b' c' ir : CW.E} {st : Stmt} {sts sts' : List Stmt} {s' : S} {ss ss' : List S} {D0 D1 : Ends} {r : SR}
theorem AtP.uniq : ∀ {is : List Int} {v u u' : V}, AtP H v is u → AtP H v is u' → u = u'
  | [], _, _, _, h, h' => h.symm.trans h'
  | _ :: _, _, _, _, ⟨p, us, w, e, hp, hw, h⟩, ⟨p', us', w', e', hp', hw', h'⟩ => by
    subst e
    cases e'
    have : us = us' := by rcases hp with hp | hp <;> rcases hp' with hp' | hp' <;> rw [hp] at hp' <;> cases hp' <;> rfl
    subst this
    rw [hw] at hw'
    cases hw'
    exact AtP.uniq h h'
theorem AtP.snoc {i : Int} {p : Addr} {us : List V} {x : V} (hp : H p = some (.lst us) ∨ H p = some (.tup us)) (hx : atI us i = some x) : ∀ {is : List Int} {v : V}, AtP H v is (.ref p) → AtP H v (is ++ [i]) x
  | [], _, h => ⟨p, us, x, h, hp, hx, rfl⟩
  | _ :: _, _, ⟨q, ws, y, e, hq, hy, h⟩ => ⟨q, ws, y, e, hq, hy, AtP.snoc hp hx h⟩
theorem atI_map {α β : Type} {xs : List α} {ys : List β} {i : Int} {x : α} (hl : ys.length = xs.length) (h : atI xs i = some x) : ∃ j y, ixN xs.length i = some j ∧ xs[j]? = some x ∧ ys[j]? = some y ∧ atI ys i = some y := by
  unfold atI at h ⊢
  cases e : ixN xs.length i with
  | none => rw [e] at h; cases h
  | some j =>
    rw [e] at h
    have hj := (List.getElem?_eq_some_iff.mp (show xs[j]? = some x from h)).1
    obtain ⟨y, hy⟩ : ∃ y, ys[j]? = some y := ⟨_, List.getElem?_eq_getElem (by rw [hl]; exact hj)⟩
    refine ⟨j, y, rfl, h, hy, ?_⟩
    rw [hl, e]
    exact hy
theorem AtP.of : ∀ {is : List Int} {F : List Addr} {v : V} {d z : D}, Own K G H F v d → pathD d is = some z → ∃ u F', AtP H v is u ∧ Own K G H F' u z ∧ ∀ p ∈ F', p ∈ F
  | [], F, v, d, z, o, h => by
    simp only [pathD, Option.some.injEq] at h
    subst h
    exact ⟨v, F, rfl, o, fun _ h => h⟩
  | i :: is, F, v, d, z, o, h => by
    cases o with
    | tup hp ol hz =>
      rename_i p vs ds
      simp only [pathD] at h
      obtain ⟨y, e1, e2⟩ := Option.bind_eq_some_iff.mp h
      obtain ⟨j, x, _, h2, h3, h4⟩ := atI_map ol.len e1
      obtain ⟨v', F1, g1, g2, g3⟩ := ol.get h2
      rw [h3] at g1
      cases g1
      obtain ⟨u, F', q1, q2, q3⟩ := AtP.of g2 e2
      exact ⟨u, F', ⟨p, vs, x, rfl, .inr hp, h4, q1⟩, q2, fun q hq => g3 q (q3 q hq)⟩
    | frz gg hp ol hz =>
      rename_i p vs ds
      simp only [pathD] at h
      obtain ⟨y, e1, e2⟩ := Option.bind_eq_some_iff.mp h
      obtain ⟨j, x, _, h2, h3, h4⟩ := atI_map ol.len e1
      obtain ⟨v', F1, g1, g2, g3⟩ := ol.get h2
      rw [h3] at g1
      cases g1
      obtain ⟨u, F', q1, q2, q3⟩ := AtP.of g2 e2
      exact ⟨u, F', ⟨p, vs, x, rfl, .inl hp, h4, q1⟩, q2, fun q hq => g3 q (q3 q hq)⟩
    | lst hp ol hn hz =>
      rename_i p vs ds F0
      simp only [pathD] at h
      obtain ⟨y, e1, e2⟩ := Option.bind_eq_some_iff.mp h
      obtain ⟨j, x, _, h2, h3, h4⟩ := atI_map ol.len e1
      obtain ⟨v', F1, g1, g2, g3⟩ := ol.get h2
      rw [h3] at g1
      cases g1
      obtain ⟨u, F', q1, q2, q3⟩ := AtP.of g2 e2
      exact ⟨u, F', ⟨p, vs, x, rfl, .inl hp, h4, q1⟩, q2, fun q hq => List.mem_cons_of_mem _ (g3 q (q3 q hq))⟩
    | _ => simp [pathD] at h
theorem AtP.keep (kt : ∀ p xs, H p = some (.tup xs) → H' p = some (.tup xs)) : ∀ {is : List Int} {F : List Addr} {v u : V} {d z : D}, Own K NoG H F v d → (∀ p ∈ F, ∀ o, H p = some o → H' p = some o) → pathD d is = some z → AtP H v is u → AtP H' v is u
  | [], _, _, _, _, _, _, _, _, h => h
  | i :: is, F, v, u, d, z, o, kf, hz, h => by
    obtain ⟨p, us, w, e, hp, hw, h⟩ := h
    cases o with
    | tup hp' ol hzz =>
      rename_i p' vs ds
      simp only [pathD] at hz
      cases e
      have e' : us = vs := by rcases hp with hp | hp <;> rw [hp'] at hp <;> cases hp <;> rfl
      subst e'
      obtain ⟨y, e1, e2⟩ := Option.bind_eq_some_iff.mp hz
      obtain ⟨j, x, _, h2, h3, h4⟩ := atI_map ol.len e1
      rw [hw] at h4
      cases h4
      obtain ⟨v', F1, g1, g2, g3⟩ := ol.get h2
      rw [h3] at g1
      cases g1
      exact ⟨p, us, w, rfl, .inr (kt _ _ hp'), hw, AtP.keep kt g2 (fun q hq => kf q (g3 q hq)) e2 h⟩
    | frz gg _ _ _ => exact gg.elim
    | lst hp' ol hn hzz =>
      rename_i p' vs ds F0
      simp only [pathD] at hz
      cases e
      have e' : us = vs := by rcases hp with hp | hp <;> rw [hp'] at hp <;> cases hp <;> rfl
      subst e'
      obtain ⟨y, e1, e2⟩ := Option.bind_eq_some_iff.mp hz
      obtain ⟨j, x, _, h2, h3, h4⟩ := atI_map ol.len e1
      rw [hw] at h4
      cases h4
      obtain ⟨v', F1, g1, g2, g3⟩ := ol.get h2
      rw [h3] at g1
      cases g1
      exact ⟨p, us, w, rfl, .inl (kf _ List.mem_cons_self _ hp'), hw, AtP.keep kt g2 (fun q hq => kf q (List.mem_cons_of_mem _ (g3 q hq))) e2 h⟩
    | _ => simp [pathD] at hz
theorem OwnL.upd : ∀ {F : List Addr} {vs : List V} {ds : List D} {j : Nat} {z : D}, OwnL K NoG H F vs ds → ds[j]? = some z → ∃ u F1, vs[j]? = some u ∧ Own K NoG H F1 u z ∧ (∀ q ∈ F1, q ∈ F) ∧
    ∀ {W : Addr → Prop} {H' : Hp} {u' : V} {z' : D} {F3 Fe : List Addr}, Kp W H H' → Wl W H → (∀ q ∈ F, W q → q ∈ F1) → Own K NoG H' F3 u' z' → (∀ q ∈ F3, q ∈ F1 ∨ q ∈ Fe) → (∀ q ∈ F, q ∉ Fe) → ∃ F2, OwnL K NoG H' F2 (vs.set j u') (ds.set j z') ∧ ∀ q ∈ F2, q ∈ F ∨ q ∈ Fe
  | _, _, _, _, _, .nil, e => by simp at e
  | _, _, _, 0, z, .cons (F := A) (F' := B) h t n, e => by
    have e' := Option.some.inj e
    subst e'
    refine ⟨_, A, rfl, h, fun p hp => List.mem_append_left _ hp, fun {W H' u' z' F3 Fe} k wl hw o hF hd => ⟨F3 ++ B, .cons o (OwnL.keep k wl (fun _ h => h.elim) (fun _ h => h) t fun q hq x => ?_) fun q hq hq' => ?_, fun q hq => ?_⟩⟩
    · exact n q (hw q (List.mem_append_right _ hq) x) hq
    · rcases hF q hq with x | x
      · exact n q x hq'
      · exact hd q (List.mem_append_right _ hq') x
    · rcases List.mem_append.mp hq with hq | hq
      · rcases hF q hq with x | x
        · exact .inl (List.mem_append_left _ x)
        · exact .inr x
      · exact .inl (List.mem_append_right _ hq)
  | _, _, _, j + 1, z, .cons (F := A) (F' := B) h t n, e => by
    obtain ⟨u, F1, h1, h2, h3, h4⟩ := OwnL.upd t (j := j) (z := z) (by simpa using e)
    refine ⟨u, F1, by simpa using h1, h2, fun q hq => List.mem_append_right _ (h3 q hq), fun {W H' u' z' F3 Fe} k wl hw o hF hd => ?_⟩
    obtain ⟨F2, o2, s2⟩ := h4 k wl (fun q hq x => hw q (List.mem_append_right _ hq) x) o hF fun q hq => hd q (List.mem_append_right _ hq)
    refine ⟨A ++ F2, .cons (Own.keep k wl (fun _ h => h.elim) (fun _ h => h) h fun q hq x => ?_) o2 fun q hq hq' => ?_, fun q hq => ?_⟩
    · exact n q hq (h3 q (hw q (List.mem_append_left _ hq) x))
    · rcases s2 q hq' with x | x
      · exact n q hq x
      · exact hd q (List.mem_append_left _ hq) x
    · rcases List.mem_append.mp hq with hq | hq
      · exact .inl (List.mem_append_left _ hq)
      · rcases s2 q hq with x | x
        · exact .inl (List.mem_append_right _ x)
        · exact .inr x
theorem setAt_path {k : Int} {e : D} : ∀ {is : List Int} {d d' : D}, setAt d (is ++ [k]) e = some d' → ∃ z, pathD d is = some z
  | [], d, _, _ => ⟨d, rfl⟩
  | [i], d, d', h => by
    cases d <;> simp only [List.cons_append, List.nil_append, setAt, reduceCtorEq] at h
    all_goals
      obtain ⟨j, e1, h⟩ := Option.bind_eq_some_iff.mp h
      obtain ⟨z, e2, h⟩ := Option.bind_eq_some_iff.mp h
      refine ⟨z, ?_⟩
      simp only [pathD, atI, e1, Option.bind_some, e2]
  | i :: i' :: is, d, d', h => by
    cases d <;> simp only [List.cons_append, setAt, reduceCtorEq] at h
    all_goals
      obtain ⟨j, e1, h⟩ := Option.bind_eq_some_iff.mp h
      obtain ⟨z, e2, h⟩ := Option.bind_eq_some_iff.mp h
      obtain ⟨d1, e3, _⟩ := Option.map_eq_some_iff.mp h
      obtain ⟨y, hy⟩ := setAt_path (is := i' :: is) (d := z) (d' := d1) e3
      refine ⟨y, ?_⟩
      simp only [pathD, atI, e1, Option.bind_some, e2]
      exact hy
theorem set_self {α : Type} {xs : List α} {j : Nat} {x : α} (h : xs[j]? = some x) : xs.set j x = xs := by
  obtain ⟨hj, e⟩ := List.getElem?_eq_some_iff.mp h
  subst e
  exact List.set_getElem_self hj
theorem Own.set {k : Int} {e : D} {w : V} {Fe : List Addr} (oe : Own K NoG H Fe w e) : ∀ {is : List Int} {F : List Addr} {v : V} {d d' : D}, Own K NoG H F v d → (∀ p ∈ F, p ∉ Fe) → setAt d (is ++ [k]) e = some d' →
    ∃ p xs j F3, AtP H v is (.ref p) ∧ H p = some (.lst xs) ∧ ixN xs.length k = some j ∧ p ∈ F ∧ Own K NoG (upd H p (.lst (xs.set j w))) F3 v d' ∧ (∀ q ∈ F3, q ∈ F ∨ q ∈ Fe) 
  | [], F, v, d, d', o, hd, h => by
    cases d <;> simp only [List.nil_append, setAt, reduceCtorEq] at h
    rename_i ds
    obtain ⟨j, e1, h⟩ := Option.bind_eq_some_iff.mp h
    obtain ⟨z, e2, h⟩ := Option.bind_eq_some_iff.mp h
    simp only [Option.map_some, Option.some.injEq] at h
    subst h
    cases o with
    | frz g _ _ _ => exact g.elim
    | lst hp ol hn hz =>
      rename_i p vs F0
      obtain ⟨u, F1, h1, h2, h3, h4⟩ := ol.upd e2
      have wl := upd_wl hp
      obtain ⟨F2, o2, s2⟩ := h4 (H' := L2.upd H p (.lst (vs.set j w))) (Fe := Fe) upd_kp wl (fun q hq x => absurd (x ▸ hq) hn) (oe.keep upd_kp wl (fun _ h => h.elim) (fun _ h => h) fun q hq x => hd p List.mem_cons_self (x ▸ hq)) (fun q hq => .inr hq) fun q hq => hd q (List.mem_cons_of_mem _ hq)
      refine ⟨p, vs, j, p :: F2, rfl, hp, by rw [ol.len]; exact e1, List.mem_cons_self, .lst upd_same o2 (fun hq => ?_) (by rw [List.length_set]; exact hz), fun q hq => ?_⟩
      · rcases s2 p hq with x | x
        · exact hn x
        · exact hd p List.mem_cons_self x
      · rcases List.mem_cons.mp hq with rfl | hq
        · exact .inl List.mem_cons_self
        · rcases s2 q hq with x | x
          · exact .inl (List.mem_cons_of_mem _ x)
          · exact .inr x
  | i :: is, F, v, d, d', o, hd, h => by
    have hc : ∃ c cs, is ++ [k] = c :: cs := by cases is <;> exact ⟨_, _, rfl⟩
    obtain ⟨c, cs, hcs⟩ := hc
    cases d <;> simp only [List.cons_append, hcs, setAt, reduceCtorEq] at h
    · -- a list?
      rename_i ds
      obtain ⟨j, e1, h⟩ := Option.bind_eq_some_iff.mp h
      obtain ⟨z, e2, h⟩ := Option.bind_eq_some_iff.mp h
      obtain ⟨z', e3, h⟩ := Option.map_eq_some_iff.mp h
      subst h
      rw [← hcs] at e3
      cases o with
      | tup hp ol hz =>
        rename_i p vs
        obtain ⟨u, F1, h1, h2, h3, h4⟩ := ol.upd e2
        obtain ⟨p', xs, j', F3, g1, g2, g3, g4, g5, g6⟩ := Own.set oe h2 (fun q hq => hd q (h3 q hq)) e3
        have wl := upd_wl g2
        obtain ⟨F2, o2, s2⟩ := h4 (H' := L2.upd H p' (.lst (xs.set j' w))) (Fe := Fe) upd_kp wl (fun q hq x => x ▸ g4) g5 g6 hd
        rw [set_self h1] at o2
        have hne : p ≠ p' := fun e => by
          subst e
          rw [hp] at g2
          cases g2
        refine ⟨p', xs, j', F2, ⟨p, vs, u, rfl, .inr hp, ?_, g1⟩, g2, g3, h3 _ g4, .tup ((upd_ne hne).trans hp) o2 (by rw [List.length_set]; exact hz), s2⟩
        · unfold atI
          rw [ol.len, e1]
          exact h1
    · rename_i ds
      obtain ⟨j, e1, h⟩ := Option.bind_eq_some_iff.mp h
      obtain ⟨z, e2, h⟩ := Option.bind_eq_some_iff.mp h
      obtain ⟨z', e3, h⟩ := Option.map_eq_some_iff.mp h
      subst h
      rw [← hcs] at e3
      cases o with
      | frz g _ _ _ => exact g.elim
      | lst hp ol hn hz =>
        rename_i p vs F0
        obtain ⟨u, F1, h1, h2, h3, h4⟩ := ol.upd e2
        obtain ⟨p', xs, j', F3, g1, g2, g3, g4, g5, g6⟩ := Own.set oe h2 (fun q hq => hd q (List.mem_cons_of_mem _ (h3 q hq))) e3
        have wl := upd_wl g2
        obtain ⟨F2, o2, s2⟩ := h4 (H' := L2.upd H p' (.lst (xs.set j' w))) (Fe := Fe) upd_kp wl (fun q hq x => x ▸ g4) g5 g6 fun q hq => hd q (List.mem_cons_of_mem _ hq)
        rw [set_self h1] at o2
        have hne : p ≠ p' := fun e => hn (h3 p (e ▸ g4))
        refine ⟨p', xs, j', p :: F2, ⟨p, vs, u, rfl, .inl hp, ?_, g1⟩, g2, g3, List.mem_cons_of_mem _ (h3 _ g4), .lst ((upd_ne hne).trans hp) o2 (fun hq => ?_) (by rw [List.length_set]; exact hz), fun q hq => ?_⟩
        · unfold atI
          rw [ol.len, e1]
          exact h1
        · rcases s2 p hq with x | x
          · exact hn x
          · exact hd p List.mem_cons_self x
        · rcases List.mem_cons.mp hq with rfl | hq
          · exact .inl List.mem_cons_self
          · rcases s2 q hq with x | x
            · exact .inl (List.mem_cons_of_mem _ x)
            · exact .inr x
end
end CW
/-! x[..][i] = e. -/
namespace CW
open PySem L2
/-- terms that change nothing and cannot raise -/
def simpE : E → Bool
  | .var _ => true
  | .cn _ => true
  | .bin _ a b => simpE a && simpE b
  | .neg a => simpE a
  | .chk a => simpE a
  | .ix a b => simpE a && simpE b
  | .bi _ [a] => simpE a
  | _ => false
section
variable {X : Cx} {φ : FEnv} {ks : List Kd} {cl : Nat → Addr} {E : L2.St → XK} {rm : Md} {G G0 G1 G2 G' : Addr → Prop} {H H0 H' H1 H2 : Hp} {σ σ1 σ2 : L2.St} {Γ Γ0 Γ1 Γ2 Γ' : Env} {Φ Φ0 Φ1 Φ2 Φ' : Nat → List Addr}
variable {m me mi m1 ma mb ms : Md} {eff eff' es ea eb ec ei ep own w w' wa wb : List Nat} {pos : Pos} {F F' : List Addr} {v : V} {d : D} {vs : List V} {ds outs : List D} {K : PySem.W.Frag} {a b e c i : Expr} {a' b' c' i' ir : CW.E} {path : List CW.E} {st : Stmt} {sts sts' : List Stmt} {s' : S} {ss ss' : List S} {D0 D1 : Ends} {r : SR}
theorem ofo_cases {α : Type} (o : Option α) (Γ : Env) : (∃ a, R.ofo o Γ = .ok a Γ) ∨ R.ofo o Γ = .bad := by
  cases o with
  | none => exact .inr rfl
  | some a => exact .inl ⟨a, rfl⟩
theorem simp_ok : ∀ {e : CW.E}, simpE e = true → ∀ Γ, (∃ d, evE φ e Γ = .ok d Γ) ∨ evE φ e Γ = .bad
  | .var i, _, Γ => by simp only [evE]; exact ofo_cases _ _
  | .cn d, _, Γ => by simp only [evE]; exact .inl ⟨_, rfl⟩
  | .bin o a b, h, Γ => by
    simp only [simpE, Bool.and_eq_true] at h
    simp only [evE]
    rcases simp_ok h.1 Γ with ⟨x, e⟩ | e <;> rw [e]
    · rw [bind_ok]
      rcases simp_ok h.2 Γ with ⟨x, e⟩ | e <;> rw [e]
      · exact ofo_cases _ _
      · exact .inr rfl
    · exact .inr rfl
  | .neg a, h, Γ => by
    simp only [simpE] at h
    simp only [evE]
    rcases simp_ok h Γ with ⟨x, e⟩ | e <;> rw [e]
    · exact ofo_cases _ _
    · exact .inr rfl
  | .chk a, h, Γ => by
    simp only [simpE] at h
    simp only [evE]
    rcases simp_ok h Γ with ⟨x, e⟩ | e <;> rw [e]
    · rw [bind_ok]
      split
      · exact .inl ⟨_, rfl⟩
      · exact .inr rfl
    · exact .inr rfl
  | .ix a b, h, Γ => by
    simp only [simpE, Bool.and_eq_true] at h
    simp only [evE]
    rcases simp_ok h.1 Γ with ⟨x, e⟩ | e <;> rw [e]
    · rw [bind_ok]
      rcases simp_ok h.2 Γ with ⟨x, e⟩ | e <;> rw [e]
      · exact ofo_cases _ _
      · exact .inr rfl
    · exact .inr rfl
  | .bi b [a], h, Γ => by
    simp only [simpE] at h
    simp only [evE, evEs]
    rcases simp_ok h Γ with ⟨x, e⟩ | e <;> rw [e]
    · exact ofo_cases _ _
    · exact .inr rfl
theorem simps_ok : ∀ {es : List CW.E}, es.all simpE = true → ∀ Γ, (∃ ds, evEs φ es Γ = .ok ds Γ) ∨ evEs φ es Γ = .bad
  | [], _, Γ => by simp only [evEs]; exact .inl ⟨_, rfl⟩
  | e :: es, h, Γ => by
    rw [List.all_cons, Bool.and_eq_true] at h
    simp only [evEs]
    rcases simp_ok (φ := φ) h.1 Γ with ⟨x, e⟩ | e <;> rw [e]
    · rw [bind_ok]
      rcases simps_ok h.2 Γ with ⟨x, e⟩ | e <;> rw [e]
      · exact .inl ⟨_, rfl⟩
      · exact .inr rfl
    · exact .inr rfl
theorem evEs_snoc : ∀ {es : List CW.E} {e : CW.E} {Γ : Env}, evEs φ (es ++ [e]) Γ = (evEs φ es Γ).bind fun ds Γ => (evE φ e Γ).bind fun d Γ => .ok (ds ++ [d]) Γ
  | [], e, Γ => by
    simp only [List.nil_append, evEs, bind_ok]
  | x :: es, e, Γ => by
    simp only [List.cons_append, evEs]
    rw [bind_assoc]
    congr 1
    funext d Γ
    rw [evEs_snoc, bind_assoc, bind_assoc]
    congr 1
    funext ds Γ
    rw [bind_assoc]
    rfl
theorem intsOf_snoc : ∀ {ds : List D} {d : D}, intsOf (ds ++ [d]) = (intsOf ds).bind fun is => (toInt d).map fun i => is ++ [i]
  | [], d => by
    cases d <;> rfl
  | x :: ds, d => by
    cases x <;> first | rfl | skip
    simp only [List.cons_append, intsOf, intsOf_snoc]
    cases intsOf ds with
    | none => rfl
    | some is =>
      cases d <;> rfl
theorem pathD_snoc {k : Int} {z : D} : ∀ {is : List Int} {d : D}, pathD d (is ++ [k]) = some z → ∃ y, pathD d is = some y
  | [], d, _ => ⟨d, rfl⟩
  | i :: is, d, h => by
    cases d <;> simp only [List.cons_append, pathD, reduceCtorEq] at h
    all_goals
      obtain ⟨y, e1, e2⟩ := Option.bind_eq_some_iff.mp h
      obtain ⟨z', hz⟩ := pathD_snoc e2
      exact ⟨z', by simp only [pathD, e1, Option.bind_some, hz]⟩
theorem pathD_last {k : Int} {z : D} : ∀ {is : List Int} {d y : D}, pathD d (is ++ [k]) = some z → pathD d is = some y → ∃ ds, (y = .lst ds ∨ y = .tup ds) ∧ atI ds k = some z
  | [], d, y, h, h' => by
    simp only [pathD, Option.some.injEq] at h'
    subst h'
    cases d <;> simp only [List.nil_append, pathD, reduceCtorEq] at h
    all_goals
      obtain ⟨y, e1, e2⟩ := Option.bind_eq_some_iff.mp h
      simp only [Option.some.injEq] at e2
      subst e2
    · exact ⟨_, .inr rfl, e1⟩
    · exact ⟨_, .inl rfl, e1⟩
  | i :: is, d, y, h, h' => by
    cases d <;> simp only [List.cons_append, pathD, reduceCtorEq] at h h'
    all_goals
      obtain ⟨x, e1, e2⟩ := Option.bind_eq_some_iff.mp h
      obtain ⟨x', e1', e2'⟩ := Option.bind_eq_some_iff.mp h'
      rw [e1] at e1'
      cases e1'
      exact pathD_last e2 e2'
noncomputable def pathEv (φ : FEnv) (x : Nat) (path : List CW.E) (Γ : Env) : R (List Int) := (evEs φ path Γ).bind fun ds Γ => R.ofo ((intsOf ds).bind fun is => (get Γ x).bind fun t => (pathD t is).map fun _ => is) Γ
def SndP (X : Cx) (φ : FEnv) (ks : List Kd) (cl : Nat → Addr) (E : L2.St → XK) (base : Expr) (x : Nat) (path : List CW.E) (eff : List Nat) : Prop :=
  ∃ t, PE X base t ∧ path.all simpE = true ∧ x ∉ eff ∧ ∀ G H σ Γ Φ (Q : VK), SI X.K ks G H σ Γ Φ → DenR X ks cl E eff (fun G' H' Φ' (is : List Int) v => ∃ v0, σ[x]? = some (some v0) ∧ AtP H' v0 is v) (pathEv φ x path Γ) G H σ Γ Φ Q → t σ H Q
theorem sp_nil {n : Str} {x : Nat} {p : Pos} (hN : X.N[x]? = some n) (hv : Vis X.env.scope n) (h1 : (n == ("__debug__" : Str)) = false) (h2 : (n == ("__classdict__" : Str)) = false) : SndP X φ ks cl E (.Name n p) x [] [] := by
  refine ⟨_, pe_var hN hv h1 h2, rfl, (fun h => nomatch h), fun G H σ Γ Φ Q I h => ?_⟩
  unfold pathEv at h
  simp only [evEs, bind_ok] at h
  obtain ⟨d, e, k⟩ := h.fin (α := Unit) I
  simp only [intsOf, Option.bind_some] at e
  obtain ⟨t, e1, e2⟩ := Option.bind_eq_some_iff.mp e
  simp only [pathD, Option.map_some, Option.some.injEq] at e2
  subst e2
  obtain ⟨v, e3, _⟩ := I.slot x t (gets e1)
  exact ⟨v, e3, k H v (fun _ _ h => h) ⟨v, e3, rfl⟩⟩
theorem step_keep {x : Nat} (I : SI K ks G H σ Γ Φ) (s : Step eff G H Φ Γ G1 H1 Φ1 Γ1) (hx : x ∉ eff) : (∀ p xs, H p = some (.tup xs) → H1 p = some (.tup xs)) ∧ ∀ p ∈ Φ x, ∀ o, H p = some o → H1 p = some o := by
  refine ⟨fun p xs h => s.kp p _ h fun j hj hp => ?_, fun p hp o h => s.kp p o h fun j hj hq => ?_⟩
  · obtain ⟨ys, z⟩ := I.mut j p hp
    rw [h] at z
    exact (ys.nt (Option.some.inj z)).elim
  · exact I.dis x j (fun e => hx (e ▸ hj)) p hp hq
theorem own_slot {x : Nat} {t : D} (I : SI K ks G H σ Γ Φ) (hk : kd ks x = .ow) (hg : get Γ x = some t) : ∃ v, σ[x]? = some (some v) ∧ Own K NoG H (Φ x) v t := by
  obtain ⟨v, e, o⟩ := I.slot x t (gets hg)
  rw [hk] at o
  exact ⟨v, e, o⟩
theorem sp_snoc {x : Nat} (hk : kd ks x = .ow) (hpl : plainIx i = true) (hs : simpE i' = true) (hx : x ∉ ei) (hb : SndP X φ ks cl E a x path ep) (hi : SndE X φ ks cl E i i' mi ei) : SndP X φ ks cl E (.Subscript a i pos) x (path ++ [i']) (ep ++ ei) := by
  obtain ⟨ta, pa, hp, hxe, qa⟩ := hb
  obtain ⟨ti, pi, qi⟩ := hi
  refine ⟨_, pe_ix ix_seq pa pi (plainIx_ok hpl), by rw [List.all_append, hp]; simp [hs], (fun h => (List.mem_append.mp h).elim hxe hx), fun G H σ Γ Φ Q I h => ?_⟩
  unfold pathEv at h
  rw [evEs_snoc] at h
  rcases simps_ok (φ := φ) hp Γ with ⟨ds, e1⟩ | e1
  rotate_left
  · rw [e1] at h
    exact h.elim
  rw [e1, bind_ok] at h
  rcases simp_ok (φ := φ) hs Γ with ⟨d, e2⟩ | e2
  rotate_left
  · rw [e2] at h
    exact h.elim
  rw [e2, bind_ok, bind_ok] at h
  have h0 := h
  obtain ⟨is, e, _⟩ := h.fin (α := Unit) I
  rw [intsOf_snoc] at e
  obtain ⟨is', e3, e⟩ := Option.bind_eq_some_iff.mp e
  obtain ⟨t, e4, e⟩ := Option.bind_eq_some_iff.mp e
  obtain ⟨js, e5, e6⟩ := Option.bind_eq_some_iff.mp e3
  obtain ⟨k, e7, e8⟩ := Option.map_eq_some_iff.mp e6
  subst e8
  obtain ⟨z, e9, e10⟩ := Option.map_eq_some_iff.mp e
  subst e10
  obtain ⟨y, e11⟩ := pathD_snoc e9
  obtain ⟨zs, ey, ez⟩ := pathD_last e9 e11
  refine qa G H σ Γ Φ _ I ?_
  unfold pathEv
  rw [e1, bind_ok, e5, Option.bind_some, e4, Option.bind_some, e11]
  intro G1 H1 Φ1 u I1 s1 ⟨v0, f1, f2⟩
  refine qi G1 H1 σ Γ Φ1 _ I1 ?_
  rw [e2]
  intro G2 H2 Φ2 w I2 s2 ⟨F, rw_, _⟩
  have hw : w = .int k := by
    have o := rw_.own
    cases d <;> simp only [toInt, reduceCtorEq, Option.some.injEq] at e7
    subst e7
    cases o
    rfl
  subst hw
  obtain ⟨v1, g1, o1⟩ := own_slot I1 hk e4
  rw [f1] at g1
  cases g1
  obtain ⟨kt, kf⟩ := step_keep I1 s2 hx
  have f3 := f2.keep kt o1 kf e11
  obtain ⟨v2, g2, o2⟩ := own_slot I2 hk e4
  rw [f1] at g2
  cases g2
  obtain ⟨u', F', q1, q2, q3⟩ := AtP.of o2 e11
  have eu := f3.uniq q1
  subst eu
  have fin : ∀ x H', H' = H2 → AtP H2 v0 (js ++ [k]) x → Q x H' := fun x H' eH at_ => by
    subst eH
    have := h0
    rw [intsOf_snoc, e5, Option.bind_some, e7, Option.map_some, Option.bind_some, e4, Option.bind_some, e9] at this
    refine this G2 H' Φ2 x I2 ((s1.trans s2).wider fun _ h => h) ⟨v0, f1, at_⟩
  rcases ey with rfl | rfl
  · obtain ⟨p, us, F0, rfl, sq, ol, _, _⟩ := q2.seq
    obtain ⟨j, x, _, _, _, h4⟩ := atI_map ol.len ez
    exact .inl ⟨p, us, k, x, rfl, rfl, SqL.of sq, h4, fin x H2 rfl (f3.snoc (.inl sq) h4)⟩
  · obtain ⟨p, us, rfl, sq, ol, _⟩ := q2.tups
    obtain ⟨j, x, _, _, _, h4⟩ := atI_map ol.len ez
    exact .inr (.inl ⟨p, us, k, x, rfl, rfl, SqT.of sq, h4, fin x H2 rfl (f3.snoc (.inr sq) h4)⟩)
theorem snd_setp {x : Nat} {p : Pos} (hk : kd ks x = .ow) (hm : me.le .ow = true) (hc : noComp e = true) (hpl : plainIx i = true) (hs : simpE i' = true) (hx : x ∉ ei) (ho : me.off (ep ++ ei) = true)
    (he : SndE X φ ks cl E e ir me ea) (hb : SndP X φ ks cl E a x path ep) (hi : SndE X φ ks cl E i i' mi ei) :
    SndS X φ ks cl E rm (.Assign [.Subscript a i p] e pos) (.setp x path i' ir) (ea ++ (ep ++ ei) ++ [x]) [] := by
  obtain ⟨te, pe, qe⟩ := he
  obtain ⟨ta, pa, hp, hxe, qa⟩ := hb
  obtain ⟨ti, pi, qi⟩ := hi
  refine ⟨_, ps_asg pe (pg_sub pa pi set_list (by intro v; cases i <;> first | rfl | cases hpl)) (by unfold swapsWithSole; exact noComp_ok hc _ _ _) (by cases e <;> rfl), fun G H σ Γ Φ D0 I h => ?_⟩
  simp only [evS] at h
  refine qe G H σ Γ Φ _ I ?_
  cases hev : evE φ ir Γ with
  | bad => rw [hev] at h; exact h.elim
  | exc k Γ1 =>
    rw [hev] at h
    exact fun G1 H1 Φ1 I1 s1 => h G1 H1 σ Φ1 I1 (s1.wider fun j hj => List.mem_append_left _ (List.mem_append_left _ hj)) Agr.refl
  | ok d Γ1 =>
    rw [hev, toS_ok] at h
    intro G1 H1 Φ1 w I1 s1 ⟨Fe, r1, o1⟩
    rcases simps_ok (φ := φ) hp Γ1 with ⟨ds, e1⟩ | e1
    rotate_left
    · rw [e1] at h
      exact h.elim
    rw [e1, toS_ok] at h
    rcases simp_ok (φ := φ) hs Γ1 with ⟨dk, e2⟩ | e2
    rotate_left
    · rw [e2] at h
      exact h.elim
    rw [e2, toS_ok] at h
    rcases ofo_cases ((intsOf (ds ++ [dk])).bind fun is => (get Γ1 x).bind fun t => setAt t is d) Γ1 with ⟨t', et⟩ | et
    rotate_left
    · rw [et] at h
      exact h.elim
    rw [et, toS_ok] at h
    have et' : ((intsOf (ds ++ [dk])).bind fun is => (get Γ1 x).bind fun t => setAt t is d) = some t' := by
      generalize (intsOf (ds ++ [dk])).bind (fun is => (get Γ1 x).bind fun t => setAt t is d) = o at et
      cases o with
      | none => cases et
      | some o => cases et; rfl
    rw [intsOf_snoc] at et'
    obtain ⟨is', e3, et'⟩ := Option.bind_eq_some_iff.mp et'
    obtain ⟨t, e4, est⟩ := Option.bind_eq_some_iff.mp et'
    obtain ⟨js, e5, e6⟩ := Option.bind_eq_some_iff.mp e3
    obtain ⟨k, e7, e8⟩ := Option.map_eq_some_iff.mp e6
    subst e8
    obtain ⟨z, ez⟩ := setAt_path est
    refine qa G1 H1 σ Γ1 Φ1 _ I1 ?_
    unfold pathEv
    rw [e1, bind_ok, e5, Option.bind_some, e4, Option.bind_some, ez]
    intro G2 H2 Φ2 u I2 s2 ⟨v0, f1, f2⟩
    refine qi G2 H2 σ Γ1 Φ2 _ I2 ?_
    rw [e2]
    intro G3 H3 Φ3 wk I3 s3 ⟨F, rk, _⟩
    have hw : wk = .int k := by
      have o := rk.own
      cases dk <;> simp only [toInt, reduceCtorEq, Option.some.injEq] at e7
      subst e7
      cases o
      rfl
    subst hw
    have off2 : me.off ep = true ∧ me.off ei = true := by
      cases me <;> first | exact ⟨rfl, rfl⟩ | skip
      simp only [Md.off, Bool.not_eq_true', List.contains_eq_mem, decide_eq_false_iff_not, List.mem_append, not_or] at ho ⊢
      exact ho
    have r3 := (r1.step I1 s2 off2.1).step I2 s3 off2.2
    obtain ⟨oe, te3⟩ : Own X.K NoG H3 Fe w d ∧ Tmp G3 H3 Φ3 Fe := ⟨(r3.el (m' := .ow) hm).1, (r3.el (m' := .ow) hm).2⟩
    obtain ⟨v2, g2, o2⟩ := own_slot I2 hk e4
    rw [f1] at g2
    cases g2
    obtain ⟨kt, kf⟩ := step_keep I2 s3 hx
    have f3 := f2.keep kt o2 kf ez
    obtain ⟨v3, g3, o3⟩ := own_slot I3 hk e4
    rw [f1] at g3
    cases g3
    obtain ⟨p, xs, j, F3, q1, q2, q3, q4, q5, q6⟩ := Own.set oe o3 (fun q hq hq' => (te3 q hq').2.1 x hq) est
    have eu := f3.uniq q1
    subst eu
    refine ⟨p, xs, k, j, rfl, rfl, q2, q3, ?_⟩
    have hf : (kd ks x).fr = false := by rw [hk]; rfl
    have hxi : x < σ.length := (List.getElem?_eq_some_iff.mp f1).1
    have tm : Tmp G3 (L2.upd H3 p (.lst (xs.set j w))) (pu Φ3 x []) F3 := fun q hq => by
      rcases q6 q hq with hq | hq
      · exact tmp_self (F := Φ3 x) I3 (fun _ h => h) q hq
      · exact tmp_grow te3 q hq
    have s123 := (s1.trans s2).trans s3
    refine h G3 _ _ _ (I3.chgD f1 q4 hxi (by rw [hk]; exact q5) hf (fun h => by rw [hk] at h; cases h) tm) ((chg_step s123 q4 (by rw [q2]; exact fun h => nomatch h) fun q hq => ?_).wider fun y hy => by simpa [List.append_assoc] using hy) Agr.refl
    rcases q6 q hq with hq | hq
    · exact .inl hq
    · refine .inr ?_
      have og : ∀ q ∈ Fe, H q = none ∨ ∃ j ∈ ea, q ∈ Φ j := fun q hq => by
        cases me with
        | im => rw [r1.1] at hq; exact nomatch hq
        | ow => exact o1 rfl q hq
        | _ => cases hm
      rcases og q hq with hq | ⟨l, hl, z⟩
      · exact .inl hq
      · exact .inr ⟨l, List.mem_append_left _ (List.mem_append_left _ hl), z⟩
end
end CW
/-! A def told by its terms keeps what it promises. -/
namespace CW
open PySem L2
theorem outs_len : ∀ {pk : List Kd} {i : Nat} {Γ : Env} {args outs : List D}, outsOf pk i Γ args = some outs → outs.length = pk.length
  | [], _, _, _, _, h => by
    simp only [outsOf, Option.some.injEq] at h
    subst h
    rfl
  | k :: ks, i, Γ, args, outs, h => by
    simp only [outsOf] at h
    split at h
    · obtain ⟨o, e1, e2⟩ := Option.map_eq_some_iff.mp h
      subst e2
      rw [List.length_cons, List.length_cons, outs_len e1]
    · cases h
theorem outs_get : ∀ {pk : List Kd} {i : Nat} {Γ : Env} {args outs : List D} {j : Nat} {d : D}, outsOf pk i Γ args = some outs → outs[j]? = some d → (if kd pk j = .ow then get Γ (i + j) else args[i + j]?) = some d
  | [], _, _, _, outs, j, d, h, hj => by
    simp only [outsOf, Option.some.injEq] at h
    subst h
    simp at hj
  | k :: ks, i, Γ, args, outs, j, d, h, hj => by
    simp only [outsOf] at h
    split at h
    · rename_i d0 hd
      obtain ⟨o, e1, e2⟩ := Option.map_eq_some_iff.mp h
      subst e2
      cases j with
      | zero =>
        cases hj
        exact hd
      | succ j =>
        have := outs_get e1 (j := j) (by simpa using hj)
        rw [show i + 1 + j = i + (j + 1) by omega] at this
        exact this
    · cases h
section
variable {X : Cx} {φ : FEnv} {ks pk : List Kd} {cl : Nat → Addr} {E : L2.St → XK} {rm : Md} {G G0 G1 G2 G' : Addr → Prop} {H H0 H' H1 H2 : Hp} {σ σ1 σ' : L2.St} {Γ Γ0 Γ1 Γ2 Γ' : Env} {Φ Φ0 Φ1 Φ2 Φ' : Nat → List Addr}
variable {m me mi m1 ma mb ms : Md} {eff w : List Nat} {F F' : List Addr} {v : V} {d : D} {vs : List V} {ds outs : List D} {K : PySem.W.Frag}
theorem mem_ioIx {i : Nat} : i ∈ ioIx pk ↔ kd pk i = .ow := by
  unfold ioIx
  rw [List.mem_filter, List.mem_range]
  constructor
  · rintro ⟨_, h⟩
    simpa using h
  · intro h
    refine ⟨?_, by simpa using h⟩
    by_cases hi : i < pk.length
    · exact hi
    · unfold kd at h
      rw [List.getD_eq_getElem?_getD, List.getElem?_eq_none (by omega)] at h
      cases h
theorem getD_map {i : Nat} {ds : List D} {d : D} : (ds.map some)[i]? = some (some d) ↔ ds[i]? = some d := by
  rw [List.getElem?_map]
  cases ds[i]? <;> simp
/-- the names at a def's entry -/
theorem si_start {n : Nat} (I : SI K pk G H (vs.map some) (ds.map some) Φ) (hp : ks.take pk.length = pk) (hn : ks.length = n) (hl : vs.length ≤ n) :
    SI K ks G H (vs.map some ++ List.replicate (n - vs.length) none) (ds.map some ++ List.replicate (n - ds.length) none) Φ := by
  have l1 : ds.length = vs.length := by simpa using I.len
  have l2 : pk.length = vs.length := by simpa using I.kl
  have kk : ∀ i, i < pk.length → kd ks i = kd pk i := fun i hi => by
    unfold kd
    rw [List.getD_eq_getElem?_getD, List.getD_eq_getElem?_getD, ← hp, List.getElem?_take_of_lt hi]
  have inn : ∀ {i : Nat} {d : D}, (ds.map some ++ List.replicate (n - ds.length) none)[i]? = some (some d) → (ds.map some)[i]? = some (some d) ∧ i < ds.length := fun {i d} h => by
    by_cases hi : i < ds.length
    · rw [List.getElem?_append_left (by simpa using hi)] at h
      exact ⟨h, hi⟩
    · rw [List.getElem?_append_right (by simpa using hi), List.getElem?_replicate] at h
      split at h <;> cases h
  have out : ∀ {i : Nat}, ¬ i < ds.length → Φ i = [] := fun {i} hi => I.non i fun d h => hi (by
    have := (List.getElem?_eq_some_iff.mp (getD_map.mp h)).1
    exact this)
  refine ⟨?_, ?_, fun i d h => ?_, fun i h => ?_, fun i h => ?_, fun i d h ho => ?_, I.dis, I.gd, I.gl⟩
  · simp only [List.length_append, List.length_map, List.length_replicate]
    omega
  · simp only [List.length_append, List.length_map, List.length_replicate]
    omega
  · obtain ⟨h', hi⟩ := inn h
    obtain ⟨v, e, o⟩ := I.slot i d h'
    refine ⟨v, ?_, ?_⟩
    · rw [List.getElem?_append_left (by rw [List.length_map]; omega)]
      exact e
    · rw [kk i (by omega)]
      exact o
  · by_cases hi : i < ds.length
    · refine I.non i fun d h' => h d ?_
      rw [List.getElem?_append_left (by simpa using hi)]
      exact h'
    · exact out hi
  · by_cases hi : i < ds.length
    · rw [kk i (by omega)] at h
      exact I.sh i h
    · exact out hi
  · obtain ⟨h', hi⟩ := inn h
    rw [kk i (by omega)] at ho
    exact I.os i d h' ho
/-- and at its end -/
theorem si_end {n : Nat} (I : SI K pk G H (vs.map some) (ds.map some) Φ) (hp : ks.take pk.length = pk) (hn : ks.length = n) (hl : vs.length ≤ n) (hos : ∀ i, kd pk i ≠ .os) (hw : ∀ i ∈ w, kd pk i ≠ .ow)
    (I' : SI K ks G' H' σ' Γ' Φ') (s : Step eff G H Φ (ds.map some ++ List.replicate (n - ds.length) none) G' H' Φ' Γ') (ag : Agr w (vs.map some ++ List.replicate (n - vs.length) none) σ') (ho : outsOf pk 0 Γ' ds = some outs) :
    ∃ Φp : Nat → List Addr, (∀ i, ∀ p ∈ Φp i, p ∈ Φ' i) ∧ SI K pk G' H' (vs.map some) (outs.map some) Φp ∧ Step (ioIx pk) G H Φ (ds.map some) G' H' Φp (outs.map some) ∧ ∀ i ∈ eff, ∀ p ∈ Φ i, i ∈ ioIx pk := by
  have l1 : ds.length = vs.length := by simpa using I.len
  have l2 : pk.length = vs.length := by simpa using I.kl
  have l3 : outs.length = pk.length := outs_len ho
  have I0 := si_start I hp hn hl
  have kk : ∀ i, i < pk.length → kd ks i = kd pk i := fun i hi => by
    unfold kd
    rw [List.getD_eq_getElem?_getD, List.getD_eq_getElem?_getD, ← hp, List.getElem?_take_of_lt hi]
  have eo : ∀ i ∈ eff, ∀ p ∈ Φ i, i ∈ ioIx pk := fun i _ p hp => by
    rw [mem_ioIx]
    cases hk : kd pk i with
    | im => rw [I.sh i (by rw [hk]; rfl)] at hp; exact nomatch hp
    | sh => rw [I.sh i (by rw [hk]; rfl)] at hp; exact nomatch hp
    | ow => rfl
    | os => exact absurd hk (hos i)
  have lt : ∀ {i : Nat}, kd pk i = .ow → i < pk.length := fun {i} hk => by
    by_cases h : i < pk.length
    · exact h
    · unfold kd at hk
      rw [List.getD_eq_getElem?_getD, List.getElem?_eq_none (by omega)] at hk
      cases hk
  have sub : ∀ i, ∀ p ∈ (if kd pk i = .ow then Φ' i else []), p ∈ Φ' i := fun i p hp => by
    split at hp
    · exact hp
    · exact nomatch hp
  refine ⟨fun i => if kd pk i = .ow then Φ' i else [], sub, ⟨by simp only [List.length_map]; omega, by simp only [List.length_map]; omega, fun i d h => ?_, fun i h => ?_, fun i h => ?_, fun i d h hk => absurd hk (hos i), fun i j hij p hp hq => ?_, fun i p hp g => ?_, I'.gl⟩, ⟨s.g, fun p g => ?_, fun p o h hn' => ?_, fun i hi => ?_, fun i hi p hp => ?_, s.ex⟩, eo⟩
  · have h := getD_map.mp h
    have hi : i < outs.length := (List.getElem?_eq_some_iff.mp h).1
    have hv : i < vs.length := by omega
    have q := outs_get ho h
    rw [Nat.zero_add] at q
    refine ⟨vs[i], by rw [List.getElem?_map, List.getElem?_eq_getElem hv]; rfl, ?_⟩
    split at q
    · rename_i hk
      rw [if_pos hk]
      obtain ⟨v, e, o⟩ := I'.slot i d (gets q)
      rw [kk i (by omega)] at o
      have ni : i ∉ w := fun z => hw i z hk
      rw [ag i ni, List.getElem?_append_left (by rw [List.length_map]; exact hv), List.getElem?_map, List.getElem?_eq_getElem hv] at e
      cases e
      exact o
    · rename_i hk
      rw [if_neg hk]
      obtain ⟨v, e, o⟩ := I0.slot i d (by rw [List.getElem?_append_left (by rw [List.length_map]; omega)]; exact getD_map.mpr q)
      rw [List.getElem?_append_left (by rw [List.length_map]; exact hv), List.getElem?_map, List.getElem?_eq_getElem hv] at e
      cases e
      rw [kk i (by omega)] at o
      cases hkk : kd pk i with
      | im =>
        rw [hkk] at o
        rw [I.sh i (by rw [hkk]; rfl)] at o
        exact (Res.step (m := .im) I0 ⟨rfl, o⟩ s rfl).2
      | sh =>
        rw [hkk] at o
        rw [I.sh i (by rw [hkk]; rfl)] at o
        exact (Res.step (m := .sh) I0 ⟨rfl, o⟩ s rfl).2
      | ow => exact absurd hkk hk
      | os => exact absurd hkk (hos i)
  · by_cases hk : kd pk i = .ow
    · have hi := lt hk
      exact absurd (getD_map.mpr (List.getElem?_eq_getElem (by omega))) (h (outs[i]'(by omega)))
    · exact if_neg hk
  · have hk : kd pk i ≠ .ow := fun z => by rw [z] at h; cases h
    exact if_neg hk
  · exact I'.dis i j hij p (sub i p hp) (sub j p hq)
  · exact I'.gd i p (sub i p hp) g
  · rcases s.gn p g with q | q | ⟨j, hj, q⟩
    · exact .inl q
    · exact .inr (.inl q)
    · exact .inr (.inr ⟨j, eo j hj p q, q⟩)
  · exact s.kp p o h fun j hj hp => hn' j (eo j hj p hp) hp
  · have hk : kd pk i ≠ .ow := fun z => hi (mem_ioIx.mpr z)
    refine ⟨?_, ?_⟩
    · rw [if_neg hk]
      by_cases h : i < pk.length
      · refine (I.sh i ?_).symm
        cases hkk : kd pk i with
        | ow => exact absurd hkk hk
        | os => exact absurd hkk (hos i)
        | _ => rfl
      · refine (I.non i fun d z => h ?_).symm
        have := (List.getElem?_eq_some_iff.mp (getD_map.mp z)).1
        omega
    · rw [List.getElem?_map, List.getElem?_map]
      by_cases h : i < outs.length
      · have q := outs_get ho (List.getElem?_eq_getElem h)
        rw [Nat.zero_add, if_neg hk] at q
        rw [q, List.getElem?_eq_getElem h]
      · rw [List.getElem?_eq_none (by omega), List.getElem?_eq_none (by omega)]
  · have hk := mem_ioIx.mp hi
    rw [if_pos hk] at hp
    by_cases h : i ∈ eff
    · rcases s.fn i h p hp with ⟨j, hj, z⟩ | z
      · exact .inl ⟨j, eo j hj p z, z⟩
      · exact .inr z
    · rw [(s.fx i h).1] at hp
      exact .inl ⟨i, hi, hp⟩
theorem res_less {Φp : Nat → List Addr} (r : Res K rm G H Φ F v d) (hr : ∀ x, rm ≠ .rd x) (h : ∀ i, ∀ p ∈ Φp i, p ∈ Φ i) : Res K rm G H Φp F v d := by
  have tm : Tmp G H Φ F → Tmp G H Φp F := fun t p hp => ⟨(t p hp).1, fun j hj => (t p hp).2.1 j (h j p hj), (t p hp).2.2⟩
  cases rm with
  | im => exact r
  | sh => exact r
  | ow => exact ⟨r.1, tm r.2⟩
  | os => exact ⟨r.1, tm r.2.1, r.2.2⟩
  | rd x => exact absurd rfl (hr x)
end
section
variable {P : Program} {w : World} {K : PySem.W.Frag} {mg : Str → Option Value} {base : Heap} {φ : FEnv} {cl : Nat → Addr}
theorem passNo {X : Cx} : ∀ σ, PassesAt (L2.CX X.prog X.w) X σ (noE σ) := fun σ pins H s e s' I c => by
  obtain ⟨_, _, _, _, _, _, _, _, _, _, _, _, h⟩ := c
  exact False.elim h
/-- THE RULE for a def told by terms -/
theorem ok_fn {x qual : Str} {st : Stmt} {f : Addr} {fd : FuncData} {N ps : List Str} {lv : Nat} {ks pk : List Kd} {rk : Kd} {ir : List S} {g : List D → RF} (F : Fun K x qual st f fd) (S0 : FnScope N ps (defScope st))
    (hks : ks.length = N.length) (hpk : ks.take ps.length = pk) (hos : pk.all (fun k => k != .os) = true) (hφ : ∀ ds, g ds = den φ pk N.length ir ds)
    (hnone : Md.ret .im rk.md = true ∨ ∀ Γ Γ', evSs φ ir Γ ≠ .nx Γ')
    (hb : ∀ (cdv : Value) (A : Around) (outer : List PySem.Env) (s : Shared) (H : Hp) (E : XK), Room lv (A.deeper (PyProof.Rows.envOfC qual (defScope st) s.heap.objs.size f cdv)) → L2.Takes (cxOf (L2.CX P w) P w K mg base N qual (defScope st) f cdv A outer s H E) (fun cls d _ H => E cls d H) → PassesOwn (model P w) (cxOf (L2.CX P w) P w K mg base N qual (defScope st) f cdv A outer s H E).A (cxOf (L2.CX P w) P w K mg base N qual (defScope st) f cdv A outer s H E).env (cxOf (L2.CX P w) P w K mg base N qual (defScope st) f cdv A outer s H E).xe → N.Nodup → (A.deeper (PyProof.Rows.envOfC qual (defScope st) s.heap.objs.size f cdv)).units + 65 < cLine → (A.deeper (PyProof.Rows.envOfC qual (defScope st) s.heap.objs.size f cdv)).guards = some [] → ∃ eff wr, SndSs (cxOf (L2.CX P w) P w K mg base N qual (defScope st) f cdv A outer s H E) φ ks cl (fun _ => E) rk.md (defBody st) ir eff wr ∧ wr.all (fun i => kd pk i != .ow) = true) :
    FnG P w K mg base (lv + 1) f fd ps (spOf K cl ⟨pk, rk⟩ g) := by
  have hpl : ps.length ≤ N.length := by have := congrArg List.length S0.pre; rw [List.length_take] at this; omega
  have lpk : pk.length = ps.length := by rw [← hpk, List.length_take]; omega
  have hpk' : ks.take pk.length = pk := by rw [lpk]; exact hpk
  refine FnG.of_body F S0 (fun vs H Q E h => ?_) (fun cdv A outer s H vs Q E gd hr h => ?_)
  · obtain ⟨G, ds, Φ, hl, _⟩ := h
    rw [hl]
    exact lpk
  · obtain ⟨G, ds, Φ, hl, I, h⟩ := h
    obtain ⟨eff, wr, ⟨t, pt, q⟩, hw⟩ := hb cdv A outer s H E hr (takes_of rfl rfl rfl rfl) (passes_of rfl) S0.nd (by have := hr.un; omega) gd
    refine ⟨t, pt, ?_⟩
    have hl' : vs.length ≤ N.length := by rw [hl]; show pk.length ≤ _; omega
    have l1 : ds.length = vs.length := by simpa using I.len
    have I0 := si_start I hpk' hks hl'
    have hos' : ∀ i, kd pk i ≠ .os := fun i z => by
      unfold kd at z
      rw [List.getD_eq_getElem?_getD] at z
      cases e : pk[i]? with
      | none => rw [e] at z; cases z
      | some k =>
        rw [e] at z
        have := List.all_eq_true.mp hos k (List.mem_of_getElem? e)
        rw [show k = .os from z] at this
        cases this
    have hw' : ∀ i ∈ wr, kd pk i ≠ .ow := fun i hi => by
      have := List.all_eq_true.mp hw i hi
      simpa using this
    have hrd : ∀ x, rk.md ≠ .rd x := fun x => by cases rk <;> exact fun h => nomatch h
    rw [hφ] at h
    unfold den at h
    refine q G H (start N vs) (ds.map some ++ List.replicate (N.length - ds.length) none) Φ _ I0 ?_
    have orgs : ∀ {F}, (∀ i ∈ eff, ∀ p ∈ Φ i, i ∈ ioIx pk) → Org rk.md eff H Φ F → Org rk.md (ioIx pk) H Φ F := fun eo o ht p hp => by
      rcases o ht p hp with z | ⟨j, hj, z⟩
      · exact .inl z
      · exact .inr ⟨j, eo j hj p z, z⟩
    revert h
    cases hev : evSs φ ir (ds.map some ++ List.replicate (N.length - ds.length) none) with
    | nx Γ' =>
      intro h
      cases ho : outsOf pk 0 Γ' ds with
      | none => simp only [ho] at h
      | some outs =>
        simp only [ho] at h
        intro G' H' σ' Φ' I' s' ag
        obtain ⟨Φp, sub, J, sj, eo⟩ := si_end I hpk' hks hl' hos' hw' I' s' ag ho
        rcases hnone with hn | hn
        · have r : Res K .im G' H' Φp [] .non .non := ⟨rfl, .non⟩
          have r' := ret_res (eff := ioIx pk) (H0 := H) (Φ0 := Φ) hn r (fun h => nomatch h)
          exact h (by rw [outs_len ho, l1]; exact hl.symm) G' H' Φp [] .non J sj r'.1 r'.2
        · exact absurd hev (hn _ _)
    | rt d Γ' =>
      intro h
      cases ho : outsOf pk 0 Γ' ds with
      | none => simp only [ho] at h
      | some outs =>
        simp only [ho] at h
        intro G' H' σ' Φ' F v I' s' ag r o
        obtain ⟨Φp, sub, J, sj, eo⟩ := si_end I hpk' hks hl' hos' hw' I' s' ag ho
        exact h (by rw [outs_len ho, l1]; exact hl.symm) G' H' Φp F v J sj (res_less r hrd sub) (orgs eo o)
    | bk Γ' =>
      intro h
      exact h.elim
    | exc c Γ' =>
      intro h
      cases ho : outsOf pk 0 Γ' ds with
      | none => simp only [ho] at h
      | some outs =>
        simp only [ho] at h
        intro G' H' σ' Φ' I' s' ag
        obtain ⟨Φp, sub, J, sj, eo⟩ := si_end I hpk' hks hl' hos' hw' I' s' ag ho
        exact h (by rw [outs_len ho, l1]; exact hl.symm) G' H' Φp J sj
    | bad =>
      intro h
      exact h.elim
end
end CW
/-! sorted of a dict whose keys are pairs of ints. -/
namespace L2
open PySem PySem.Spec PyProof.Rows
def keyP (p : Int × Int) : List Key := [Sum.inl p.1, Sum.inl p.2]
def pairAt (H : Hp) : V → Int × Int
  | .ref t => match H t with
      | some (.tup [.int i, .int j]) => (i, j)
      | _ => (0, 0)
  | _ => (0, 0)
theorem paired_at {α β : Type} {F : α → β → Prop} : ∀ {l₁ : List α} {l₂ : List β} {i : Nat} {a : α}, Paired F l₁ l₂ → l₁[i]? = some a → ∃ b, l₂[i]? = some b ∧ F a b
  | _, _, _, _, .nil, e => by simp at e
  | _, _, 0, a, .cons h t, e => by
    have e' := Option.some.inj e
    subst e'
    exact ⟨_, rfl, h⟩
  | _, _, i + 1, a, .cons h t, e => by
    obtain ⟨b, e1, e2⟩ := paired_at t (i := i) (by simpa using e)
    exact ⟨b, by simpa using e1, e2⟩
section
variable {X : Cx}
theorem call_sortedDP (hc : X.calm = true) : CallR X (.builtin "sorted") (fun xs H Q => ∃ (d : Addr) (kvs : List (List Key × V)) (ps : List (Int × Int)), xs = [V.ref d] ∧ Rd H d (.dT kvs) ∧ kvs.map (·.1) = ps.map keyP ∧ ps.length < 64 ∧
    ∀ ys p, (∃ bs : List Addr, IsKeys H kvs bs ∧ ys.Perm (bs.map V.ref)) → SrtO.Srtd (ltP (pairAt H)) ys → H p = none → Q (.ref p) (upd H p (.lst ys))) := by
  intro pins s σ H xs us Q I r h
  obtain ⟨d, kvs, ps, rfl, hd, hks, h64, q⟩ := h
  obtain ⟨u, rfl, rx⟩ := r.one
  cases rx
  obtain ⟨z, hs, ks, pr, o, es, ep, ho, hx, hdt, he, hn⟩ := (show ObjOk X.prog X.w H s.heap d (.dT kvs) from hd.ok I.hok)
  have l1 : es.size = ks.length := size_of_entries he
  have l2 : kvs.length = ks.length := Paired.length pr
  have l3 : kvs.length = ps.length := by
    have := congrArg List.length hks
    rwa [List.length_map, List.length_map] at this
  have hz : (64 : Nat) ≤ sizeLine := by decide
  refine Calls.call_function_entry PyProof.Rows.kind_sorted PyProof.Rows.plain_sorted PyProof.Rows.entry_sorted (PyProof.Rows.args_sorted1 _) ?_
  unfold Builtin.«sorted»
  refine wpAny_bind (m := checkCount "sorted" 1 1 _) (wpAny_pure ?_)
  refine wpAny_bind (PySem.W.kdu_collect (A := X.A.in1) (kdl_raw hs hx hdt) (I.ok.hd hc) ho (by omega) fun h' tk acc' kp it => ?_)
  have ea : acc'.toList = ks.map fun x => Value.ref x.2.1 := by
    have hl : acc'.toList.length = ks.length := by rw [Array.length_toList, it.1]; exact l1
    apply List.ext_getElem?
    intro j
    rw [List.getElem?_map]
    cases hj : acc'.toList[j]? with
    | none =>
      have h1 := List.getElem?_eq_none_iff.mp hj
      rw [List.getElem?_eq_none (by omega)]
      rfl
    | some v =>
      obtain ⟨en, hen, hv⟩ := it.2 j v (by rw [← Array.getElem?_toList]; exact hj)
      have qe := entry_at he j
      rw [hen] at qe
      cases hb : ks[j]? with
      | none =>
        rw [hb] at qe
        exact nomatch (show some en = none from qe)
      | some b =>
        rw [hb] at qe
        have e2 : en = entryOfKey (tupleKind (mixKind X.prog X.w)) b := Option.some.inj qe
        rw [hv, e2]
        rfl
  have I1 : Inv X pins σ H { s with heap := h', toks := tk } := I.kept kp
  have hk : IsKeys H kvs (ks.map fun x => x.2.1) := isKeys_of pr
  have hal : acc'.toList.length = ps.length := by rw [ea, List.length_map]; omega
  have hall : ∀ v ∈ acc'.toList, ∃ t, v = Value.ref t ∧ ∃ i j : Int, H t = some (.tup [.int i, .int j]) := fun v hv => by
    rw [ea] at hv
    obtain ⟨n, hn1, hn2⟩ := List.mem_iff_getElem.mp hv
    rw [List.length_map] at hn1
    rw [List.getElem_map] at hn2
    subst hn2
    have hkn : n < kvs.length := by omega
    have e1 := paired_at hk (show kvs[n]? = some kvs[n] from List.getElem?_eq_getElem hkn)
    obtain ⟨b, e2, e3⟩ := e1
    rw [List.getElem?_map, List.getElem?_eq_getElem hn1] at e2
    cases e2
    have e4 : (kvs.map (·.1))[n]? = some kvs[n].1 := by rw [List.getElem?_map, List.getElem?_eq_getElem hkn]; rfl
    rw [hks, List.getElem?_map, List.getElem?_eq_getElem (show n < ps.length by omega)] at e4
    have e5 : keyP ps[n] = kvs[n].1 := Option.some.inj e4
    rw [← e5] at e3
    exact ⟨_, rfl, _, _, e3⟩
  have hpair : ∀ v ∈ acc'.toList, Srt.IsPair h' v (pairAt H (backV v)).1 (pairAt H (backV v)).2 := fun v hv => by
    obtain ⟨t, rfl, i, j, ht⟩ := hall v hv
    obtain ⟨_, its2, r2, o, ho, hcl, n, hdd⟩ := I1.hok _ _ ht
    obtain ⟨u1, u2, rfl, ri, rj⟩ := vals2 r2
    obtain ⟨t1, rfl⟩ := ri
    obtain ⟨t2, rfl⟩ := rj
    have ep : pairAt H (backV (Value.ref t)) = (i, j) := by
      show pairAt H (.ref t) = _
      simp only [pairAt, ht]
    rw [ep]
    exact ⟨t, o, t1, t2, n, rfl, ho, hcl, hdd⟩
  refine wpAny_bind (wpAny_newList ?_ (by omega))
  have hoL : (h'.push (seqObj "list" acc'.toList.toArray 0)).get? h'.objs.size = some (seqObj "list" acc'.toList.toArray 0) := Heap.get?_push_size _ rfl
  show wpAny _ _ _ _ _ { s with heap := h'.push (seqObj "list" acc'.toList.toArray 0), toks := tk }
  refine wpAny_bind (wpAny_holding (wpAny_call_entry PyProof.Rows.slot_list_sort ⟨_, hoL, rfl⟩ PyProof.Rows.entry_list_sort
    (SrtO.list_sort_ord (s := { s with heap := h'.push (seqObj "list" acc'.toList.toArray 0), toks := tk }) (SrtO.swo_lex fun u => pairAt H (backV u)) hoL (by omega)
      (fun h2 => SrtO.pairs_sortableO (s := { s with heap := h'.push (seqObj "list" acc'.toList.toArray 0), toks := tk }) (by omega) (fun v hm => (hpair v hm).keeps fun b o e _ => Heap.get?_push_of_some _ e) fun o e => by
        have e' : some o = some (seqObj "list" acc'.toList.toArray 0) := e.symm.trans hoL
        cases e'
        intro c
        exact absurd (Value.type.inj c) (by decide)) fun out g1 g2 => ⟨_, rfl, ?_⟩) (PyProof.Rows.args_list_sort _)))
  obtain ⟨e', he'⟩ := PyProof.Rows.sortedHeap_at (vs := acc'.toList) (out := out.toArray) hoL
  have h3 : ∀ u ∈ out, ∃ a, u = Value.ref a := fun u hu => by
    obtain ⟨t, e, _⟩ := hall u (g2.perm.mem_iff.mp hu)
    exact ⟨t, e⟩
  have hlen : (out.map backV).length ≤ sizeLine := by
    rw [List.length_map, g2.perm.length_eq]
    omega
  refine wpAny_pure ⟨_, rfl, .ref h'.objs.size, upd H h'.objs.size (.lst (out.map backV)), I1.laid (t' := tk) (fun b u e => ?_) (Nat.le_refl _)
    (show ObjOk X.prog X.w _ _ _ (.lst (out.map backV)) from ⟨hlen, out, e', vals_back h3, he'⟩), rfl, q _ _ ⟨_, hk, ?_⟩ (SrtO.srtd_map g1) (I1.hok.fresh (Nat.le_refl _))⟩
  · have hb : b < h'.objs.size := Heap.lt_size e
    rw [PyProof.Rows.sortedHeap_old (Nat.ne_of_lt hb) (by rw [size_push']; exact Nat.lt_succ_of_lt hb)]
    exact Heap.get?_push_of_some _ e
  · have e1 := g2.perm.map backV
    rw [ea, List.map_map] at e1
    rw [List.map_map]
    exact e1
end
end L2
/-! sorted. -/
namespace CW
open PySem L2
section
variable {X : Cx} {φ : FEnv} {ks : List Kd} {cl : Nat → Addr} {E : L2.St → XK} {G G1 G2 G' : Addr → Prop} {H H0 H' H1 H2 : Hp} {σ : L2.St} {Γ Γ1 Γ2 : Env} {Φ Φ0 Φ1 Φ2 : Nat → List Addr}
variable {a b c e : Expr} {a' b' c' ir : CW.E} {m m' ma mb mc : Md} {eff eff' ea eb ec : List Nat} {pos : Pos} {F F' : List Addr} {v : V} {d : D} {vs : List V} {ds : List D} {K : PySem.W.Frag}
abbrev keyH := L2.pairAt
def pairD (p : Int × Int) : D := .tup [.int p.1, .int p.2]
theorem leP_iff {p q : Int × Int} : leP p q = true ↔ p.1 < q.1 ∨ p.1 = q.1 ∧ p.2 ≤ q.2 := by
  unfold leP
  simp only [Bool.or_eq_true, Bool.and_eq_true, decide_eq_true_eq]
theorem sort_ints {ns ns' : List Int} (h : ns'.Perm ns) (h' : ns'.Pairwise (· ≤ ·)) : ns' = ns.mergeSort fun a b => decide (a ≤ b) := by
  refine List.Perm.eq_of_pairwise (le := fun a b => a ≤ b) (fun a b _ _ h1 h2 => by omega) h' ?_ (h.trans (List.mergeSort_perm _ _).symm)
  have := List.pairwise_mergeSort (le := fun (a b : Int) => decide (a ≤ b)) (fun a b c h1 h2 => by simp only [decide_eq_true_eq] at *; omega) (fun a b => by simp only [Bool.or_eq_true, decide_eq_true_eq]; omega) ns
  exact this.imp fun h => by simpa using h
theorem sort_pairs {ps ps' : List (Int × Int)} (h : ps'.Perm ps) (h' : ps'.Pairwise fun p q => leP p q = true) : ps' = ps.mergeSort leP := by
  refine List.Perm.eq_of_pairwise (le := fun p q => leP p q = true) (fun a b _ _ h1 h2 => ?_) h' ?_ (h.trans (List.mergeSort_perm _ _).symm)
  · rw [leP_iff] at h1 h2
    exact Prod.ext (by omega) (by omega)
  · exact List.pairwise_mergeSort (fun a b c h1 h2 => by rw [leP_iff] at *; omega) (fun a b => by rw [Bool.or_eq_true, leP_iff, leP_iff]; omega) ps
theorem pairsOf_all : ∀ {ds : List D} {ps : List (Int × Int)}, pairsOf ds = some ps → ds = ps.map pairD
  | [], _, h => by
    simp only [pairsOf, Option.some.injEq] at h
    subst h
    rfl
  | d :: ds, ps, h => by
    simp only [pairsOf] at h
    obtain ⟨p, e1, h⟩ := Option.bind_eq_some_iff.mp h
    obtain ⟨r, e2, e3⟩ := Option.map_eq_some_iff.mp h
    subst e3
    rw [List.map_cons, ← pairsOf_all e2]
    congr 1
    unfold pairOf at e1
    split at e1
    · cases e1
      rfl
    · cases e1
theorem intsOf_all : ∀ {ds : List D} {ns : List Int}, intsOf ds = some ns → ds = ns.map D.int
  | [], _, h => by
    simp only [intsOf, Option.some.injEq] at h
    subst h
    rfl
  | d :: ds, ns, h => by
    cases d <;> simp only [intsOf, reduceCtorEq] at h
    obtain ⟨r, e2, e3⟩ := Option.map_eq_some_iff.mp h
    subst e3
    rw [List.map_cons, ← intsOf_all e2]
theorem Own.pair {p : Int × Int} (o : Own K G H F v (pairD p)) : ∃ t, v = .ref t ∧ H t = some (.tup [.int p.1, .int p.2]) ∧ keyH H v = p := by
  cases o with
  | tup hp ol _ =>
    cases ol with
    | cons h1 h2 _ =>
      cases h1
      cases h2 with
      | cons h3 h4 _ =>
        cases h3
        cases h4
        exact ⟨_, rfl, hp, by simp only [keyH, L2.pairAt, hp]⟩
theorem OwnL.pairs : ∀ {ps : List (Int × Int)} {F : List Addr} {vs : List V}, OwnL K G H F vs (ps.map pairD) → (∀ x ∈ vs, ∃ t, x = .ref t ∧ H t = some (.tup [.int (keyH H x).1, .int (keyH H x).2])) ∧ vs.map (keyH H) = ps
  | [], _, _, h => by
    cases h
    exact ⟨(fun _ h => nomatch h), rfl⟩
  | p :: ps, _, _, h => by
    rw [List.map_cons] at h
    cases h with
    | cons h1 h2 _ =>
      obtain ⟨t, rfl, ht, hk⟩ := h1.pair
      obtain ⟨a, b⟩ := OwnL.pairs h2
      refine ⟨fun x hx => ?_, by rw [List.map_cons, hk, b]⟩
      rcases List.mem_cons.mp hx with rfl | hx
      · exact ⟨t, rfl, by rw [hk]; exact ht⟩
      · exact a x hx
theorem callR_or {f : Value} {r r' : List V → Hp → VK → Prop} (h : CallR X f r) (h' : CallR X f r') : CallR X f fun vs H Q => r vs H Q ∨ r' vs H Q := by
  intro pins s σ H vs us Q I rv hr
  rcases hr with hr | hr
  · exact h pins s σ H vs us Q I rv hr
  · exact h' pins s σ H vs us Q I rv hr
theorem keyD_pair {k : List Key} {p : Int × Int} (h : keyD k = pairD p) : k = L2.keyP p := by
  unfold keyD pairD at h
  simp only [D.tup.injEq] at h
  match k, h with
  | [], h => simp at h
  | [a], h => simp at h
  | a :: b :: c :: r, h => simp at h
  | [a, b], h =>
    simp only [List.map_cons, List.map_nil, List.cons.injEq, and_true] at h
    obtain ⟨h1, h2⟩ := h
    cases a <;> cases b <;> cases h1 <;> cases h2
    rfl
theorem keysP_of : ∀ {ks : List (List Key)} {ps : List (Int × Int)}, ks.map keyD = ps.map pairD → ks = ps.map L2.keyP
  | [], [], _ => rfl
  | [], _ :: _, h => by cases h
  | _ :: _, [], h => by cases h
  | k :: ks, p :: ps, h => by
    simp only [List.map_cons, List.cons.injEq] at h
    rw [List.map_cons, keyD_pair h.1, keysP_of h.2]
theorem okL_pairs {ck : Bool} {ps : List (Int × Int)} : okL ck (ps.map pairD) = some (.lst (ps.map pairD)) := by
  have : (ps.map pairD).all D.imm = true := by
    rw [List.all_eq_true]
    intro d hd
    obtain ⟨p, _, rfl⟩ := List.mem_map.mp hd
    simp [pairD]
  unfold okL
  rw [this, Bool.or_true, if_pos rfl]
theorem Own.dcts {ks0 : List (List Key)} (h : Own K G H F v (.dct ks0 ds)) : ∃ p us F', v = .ref p ∧ H p = some (.dT (ks0.zip us)) ∧ OwnL K G H F' us ds ∧ ks0.length = ds.length ∧ (∀ q ∈ F', q ∈ F) ∧ ds.length ≤ sizeLine := by
  cases h with
  | dfz g hp l t z => exact ⟨_, _, _, rfl, hp, t, l, (fun _ h => nomatch h), z⟩
  | dct hp l t n z => exact ⟨_, _, _, rfl, hp, t, l, fun q hq => List.mem_cons_of_mem _ hq, z⟩
theorem snd_sorted {ck : Bool} {p : Pos} (hc : X.calm = true) (hg : Gl X "sorted") (hn : X.mg "sorted" = none) (hs : noStar a = true) (ha : SndE X φ ks cl E a a' ma ea) (hm : mkOk ck ma.bare m = true) :
    SndE X φ ks cl E (.Call (.Name "sorted" p) [a] [] pos) (.mk .sorted ck a') m ea := by
  obtain ⟨ta, pa, qa⟩ := ha
  refine ⟨_, pe_callB (callR_or (callR_or cr_sortedI cr_sortedPO) (L2.call_sortedDP hc)) hg hn (by decide +kernel) (pa_cons pa pa_nil (noStar_ok hs _)) (he := noStar_ok hs _), fun G H σ Γ Φ Q I h => ?_⟩
  simp only [evE] at h
  refine qa G H σ Γ Φ _ I (h.seq sub_all fun x Γ1 G1 H1 Φ1 v I1 s1 r1 h1 => ?_)
  obtain ⟨F1, r1, _⟩ := r1
  cases x <;> first | exact h1.elim | skip
  rotate_left 1
  · rename_i kk dd
    obtain ⟨p, us, F', rfl, hp, o1, lk, f1, l1⟩ := r1.own.dcts
    simp only [Mk.sem] at h1
    split at h1
    rotate_left 1
    · exact h1.elim
    rename_i h64
    cases hpq : pairsOf (kk.map keyD) with
    | none => rw [hpq] at h1; exact h1.elim
    | some ps =>
      rw [hpq] at h1
      have e1 := keysP_of (pairsOf_all hpq)
      have lp : ps.length = kk.length := by rw [e1, List.length_map]
      have hus : us.length = kk.length := by rw [o1.len, lk]
      have e0 : (kk.zip us).map (·.1) = kk := by rw [List.map_fst_zip (by omega)]
      have h2 : DenR X ks cl E ea (RelE X m ea H Φ) (R.ofo (okL ck ((ps.mergeSort leP).map pairD)) Γ1) G1 H1 σ Γ1 Φ1 Q := by
        rw [okL_pairs]
        exact h1
      refine .inr ⟨p, kk.zip us, ps, rfl, .inl hp, by rw [e0, e1], by omega, fun ys q hb hy1 hq => ?_⟩
      obtain ⟨bs, hk, hy2⟩ := hb
      have hbl : bs.length = kk.length := by
        have := Paired.length hk
        rw [List.length_zip] at this
        omega
      have e2 : ∀ n (hn : n < bs.length) (hn' : n < ps.length), H1 bs[n] = some (.tup [.int ps[n].1, .int ps[n].2]) := fun n hn hn' => by
        have hz : n < (kk.zip us).length := by rw [List.length_zip]; omega
        obtain ⟨w, hw⟩ : ∃ w, (kk.zip us)[n]? = some w := ⟨_, List.getElem?_eq_getElem hz⟩
        obtain ⟨b, q1, q2⟩ := L2.paired_at hk hw
        rw [List.getElem?_eq_getElem hn] at q1
        cases q1
        have q3 : ((kk.zip us).map (·.1))[n]? = some w.1 := by rw [List.getElem?_map, hw]; rfl
        rw [e0, e1, List.getElem?_map, List.getElem?_eq_getElem hn'] at q3
        have q4 : L2.keyP ps[n] = w.1 := Option.some.inj q3
        rw [← q4] at q2
        exact q2
      have e3 : (bs.map V.ref).map (keyH H1) = ps := by
        apply List.ext_getElem
        · rw [List.length_map, List.length_map]
          omega
        · intro n h1' h2'
          rw [List.length_map, List.length_map] at h1'
          rw [List.getElem_map, List.getElem_map]
          simp only [keyH, L2.pairAt, e2 n h1' h2']
      have e5 : ∀ v ∈ ys, ∃ t, v = .ref t ∧ H1 t = some (.tup [.int (keyH H1 v).1, .int (keyH H1 v).2]) := fun v hv => by
        obtain ⟨b, hb, rfl⟩ := List.mem_map.mp (hy2.mem_iff.mp hv)
        obtain ⟨n, hn, rfl⟩ := List.mem_iff_getElem.mp hb
        have q := e2 n hn (by omega)
        refine ⟨_, rfl, ?_⟩
        rw [q]
        simp only [keyH, L2.pairAt, q]
      have e4 : (ys.map (keyH H1)) = ps.mergeSort leP := by
        refine sort_pairs (by rw [← e3]; exact hy2.map _) ?_
        refine List.pairwise_map.mpr (hy1.imp fun {x y} h => ?_)
        show leP (L2.pairAt H1 x) (L2.pairAt H1 y) = true
        rw [leP_iff]
        have := SrtO.lexB_no.mp h
        omega
      have hz64 : (64 : Nat) ≤ sizeLine := by decide
      refine mk_fin (vs := ys) (B := ma.bare) I1 (fun q hq => s1.ex q hq) h2 rfl ?_ hm (by rw [List.length_map, List.length_mergeSort]; omega) q hq
      rw [← e4]
      refine ⟨by rw [List.length_map, List.length_map], fun i v d h2 h3 => ?_⟩
      rw [List.getElem?_map, List.getElem?_map, h2] at h3
      cases h3
      obtain ⟨t, rfl, ht⟩ := e5 v (List.mem_of_getElem? h2)
      exact ⟨[], .tup ht (.cons0 .int (.cons0 .int .nil)) (by show 2 ≤ sizeLine; decide), fun _ => rfl⟩
  rename_i xs
  obtain ⟨p, us, F', rfl, hp, o1, f1, l1⟩ := r1.own.seq
  simp only [Mk.sem, sortD] at h1
  cases hi : intsOf xs with
  | some ns =>
    rw [hi] at h1
    simp only [Option.bind_some] at h1
    have e1 := o1.ints hi
    have e2 := intsOf_all hi
    refine .inl (.inl ⟨p, ns, rfl, by rw [← e1]; exact SqL.of hp, fun ns' q hp1 hp2 hq => ?_⟩)
    have e := sort_ints hp1 hp2
    subst e
    refine mk_fin (vs := (ns.mergeSort fun a b => decide (a ≤ b)).map V.int) (B := ma.bare) I1 (fun q hq => s1.ex q hq) h1 rfl ?_ hm (by rw [List.length_map, List.length_mergeSort]; rw [e2, List.length_map] at l1; exact l1) q hq
    refine ⟨by rw [List.length_map, List.length_map], fun i v d h2 h3 => ?_⟩
    rw [List.getElem?_map] at h2 h3
    cases e : (ns.mergeSort fun a b => decide (a ≤ b))[i]? with
    | none => rw [e] at h2; cases h2
    | some n =>
      rw [e] at h2 h3
      cases h2
      cases h3
      exact ⟨[], .int, fun _ => rfl⟩
  | none =>
    rw [hi] at h1
    simp only at h1
    cases hpq : pairsOf xs with
    | none => rw [hpq] at h1; exact h1.elim
    | some ps =>
      rw [hpq] at h1
      simp only [Option.map_some, Option.bind_some] at h1
      have e1 := pairsOf_all hpq
      rw [e1] at o1
      obtain ⟨e2, e3⟩ := o1.pairs
      refine .inl (.inr ⟨p, us, keyH H1, rfl, SqL.of hp, e2, fun ys q hy1 hy2 hq => ?_⟩)
      have e4 : (ys.map (keyH H1)) = ps.mergeSort leP := by
        refine sort_pairs (by rw [← e3]; exact hy2.perm.map _) ?_
        refine List.pairwise_map.mpr (hy1.imp fun {x y} h => ?_)
        rw [leP_iff]
        have := SrtO.lexB_no.mp h
        omega
      refine mk_fin (vs := ys) (B := ma.bare) I1 (fun q hq => s1.ex q hq) h1 rfl ?_ hm (by rw [List.length_map, List.length_mergeSort]; rw [e1, List.length_map] at l1; exact l1) q hq
      rw [← e4]
      refine ⟨by rw [List.length_map, List.length_map], fun i v d h2 h3 => ?_⟩
      rw [List.getElem?_map, List.getElem?_map, h2] at h3
      cases h3
      obtain ⟨t, rfl, ht⟩ := e2 v (hy2.perm.mem_iff.mp (List.mem_of_getElem? h2))
      exact ⟨[], .tup ht (.cons0 .int (.cons0 .int .nil)) (by show 2 ≤ sizeLine; decide), fun _ => rfl⟩
end
end CW
/-! The rules as one writes them. -/
namespace CW
open PySem L2
/-- a def that may be called -/
structure Cal (P : Program) (w : World) (K : PySem.W.Frag) (mg : Str → Option Value) (base : Heap) (cl : Nat → Addr) (lv : Nat) (x : Str) (sg : FSig) (g : List D → RF) : Prop where
  ex : ∃ f fd ps, FnG P w K mg base lv f fd ps (spOf K cl sg g) ∧ mg x = some (.ref f) ∧ PySem.W.keepIn K (.ref f) = true ∧ Binds K fd ps []
theorem Cal.mono {P : Program} {w : World} {K : PySem.W.Frag} {mg : Str → Option Value} {base : Heap} {cl : Nat → Addr} {lv lv' : Nat} {x : Str} {sg : FSig} {g : List D → RF} (C : Cal P w K mg base cl lv x sg g) (h : lv ≤ lv') : Cal P w K mg base cl lv' x sg g := by
  obtain ⟨f, fd, ps, a, b⟩ := C.ex
  exact ⟨f, fd, ps, a.mono h, b⟩
def fitB (pk : List Kd) (as : List Arg) : Bool :=
  as.length == pk.length && ((List.range as.length).all fun i => match as[i]? with | some a => a.fits true (kd pk i) | none => true) &&
  ((List.range as.length).all fun i => (List.range as.length).all fun j => i == j || ((as[i]?).bind Arg.ios).isNone || (as[i]?).bind Arg.ios != (as[j]?).bind Arg.ios) &&
  as.all fun a => match a.lent with | some r => as.all fun b => b.ios != some r | none => true
theorem fit_of {pk : List Kd} {as : List Arg} (h : fitB pk as = true) : FitOk true pk as := by
  unfold fitB at h
  simp only [Bool.and_eq_true, beq_iff_eq] at h
  obtain ⟨⟨⟨h1, h2⟩, h3⟩, h4⟩ := h
  have lt : ∀ {i x : Nat}, (as[i]?).bind Arg.ios = some x → i < as.length := fun {i x} e => by
    cases q : as[i]? with
    | none => rw [q] at e; cases e
    | some a => exact (List.getElem?_eq_some_iff.mp q).1
  refine ⟨h1, fun i a e => ?_, fun i j x e1 e2 => ?_, fun i x a r e1 ha er q => ?_⟩
  · have := List.all_eq_true.mp h2 i (List.mem_range.mpr (List.getElem?_eq_some_iff.mp e).1)
    rw [e] at this
    exact this
  · have := List.all_eq_true.mp (List.all_eq_true.mp h3 i (List.mem_range.mpr (lt e1))) j (List.mem_range.mpr (lt e2))
    rw [e1, e2] at this
    simpa using this
  · have := List.all_eq_true.mp h4 a ha
    rw [er] at this
    subst q
    cases q : as[i]? with
    | none => rw [q] at e1; cases e1
    | some b =>
      rw [q] at e1
      have := List.all_eq_true.mp this b (List.mem_of_getElem? q)
      simp only [Option.bind_some] at e1
      rw [e1] at this
      simp at this
def zB (rk : Kd) (as : List Arg) : Bool := match rk with
  | .im => true
  | .ow => true
  | .sh => as.all fun a => a.lent == none
  | .os => false
def ioB (ks : List Kd) (as : List Arg) : Bool := as.all fun a => match a.ios with | some x => kd ks x == .ow | none => true
section
variable {X : Cx} {φ : FEnv} {ks : List Kd} {cl : Nat → Addr} {E : L2.St → XK} {rm : Md}
variable {m me mi m1 ma mb mc ms : Md} {eff eff' es' ea eb ec own w w' : List Nat} {pos p p2 : Pos} {x : Str} {a b c e iter tgE eltE : Expr} {a' b' c' ir iter' elt : CW.E} {es ifs : List Expr} {irs : List CW.E} {as : List Arg} {st : Stmt} {sts sts' : List Stmt} {s' : S} {ss ss' : List S} {tg : Tg} {scope : Scope}
theorem y_v (i : Nat) (hN : X.N[i]? = some x := by rfl) (hv : Vis X.env.scope x := by first | exact Or.inl rfl | exact Or.inr (Or.inl rfl) | exact Or.inr (Or.inr rfl)) (h1 : (x == ("__debug__" : Str)) = false := by decide) (h2 : (x == ("__classdict__" : Str)) = false := by decide) :
    SndE X φ ks cl E (.Name x pos) (.var i) (mdOf ks i) [] := snd_var hN hv h1 h2
theorem y_mv (i : Nat) (hk : kd ks i = .ow := by rfl) (hN : X.N[i]? = some x := by rfl) (hv : Vis X.env.scope x := by first | exact Or.inl rfl | exact Or.inr (Or.inl rfl) | exact Or.inr (Or.inr rfl)) (h1 : (x == ("__debug__" : Str)) = false := by decide) (h2 : (x == ("__classdict__" : Str)) = false := by decide) :
    SndE X φ ks cl E (.Name x pos) (.mv i) .ow [i] := snd_mv (.inl ⟨hk, rfl⟩) hN hv h1 h2
theorem y_mvs (i : Nat) (hk : kd ks i = .os := by rfl) (hN : X.N[i]? = some x := by rfl) (hv : Vis X.env.scope x := by first | exact Or.inl rfl | exact Or.inr (Or.inl rfl) | exact Or.inr (Or.inr rfl)) (h1 : (x == ("__debug__" : Str)) = false := by decide) (h2 : (x == ("__classdict__" : Str)) = false := by decide) :
    SndE X φ ks cl E (.Name x pos) (.mv i) .os [i] := snd_mv (.inr ⟨hk, rfl⟩) hN hv h1 h2
theorem y_g {i : Int} (h : ∃ t, X.mg x = some (.int i t)) (hg : Gl X x := by rfl) (hd : (x == ("__debug__" : Str)) = false := by decide) : SndE X φ ks cl E (.Name x pos) (.cn (.int i)) .im [] := by
  obtain ⟨t, e⟩ := h
  exact snd_glob hg e ⟨t, rfl⟩ hd
theorem y_bin (o : Bop) (ha : SndE X φ ks cl E a a' ma ea) (hb : SndE X φ ks cl E b b' mb eb) (off : ma.off eb = true := by rfl) : SndE X φ ks cl E (.BinOp a o.py b pos) (.bin o a' b') .im (ea ++ eb) := by
  obtain ⟨r, h1, h2⟩ := bop_ok (X := X) o
  exact snd_bin h1 (fun x y z hz G1 G2 H F1 F2 v w Q o1 o2 q => h2 x y z hz (fun p => G1 p ∨ G2 p) H F1 F2 v w Q (o1.mono fun _ h => .inl h) (o2.mono fun _ h => .inr h) q) ha hb off
theorem y_cmp (hu : X.A.units + 65 < cLine) (o : Cop) (ha : SndE X φ ks cl E a a' ma ea) (hb : SndE X φ ks cl E b b' mb eb) (off : ma.off eb = true := by rfl) (hm : behindInMarks o.py b = false := by rfl) : SndE X φ ks cl E (.Compare a [o.py] [b] pos) (.cmp o a' b') .im (ea ++ eb) := (snd_cmp hu o hm ha hb off).toE
theorem y_cmpT (hu : X.A.units + 65 < cLine) (o : Cop) (ha : SndE X φ ks cl E a a' ma ea) (hb : SndE X φ ks cl E b b' mb eb) (off : ma.off eb = true := by rfl) (hm : behindInMarks o.py b = false := by rfl) : SndT X φ ks cl E (.Compare a [o.py] [b] pos) (.cmp o a' b') (ea ++ eb) := (snd_cmp hu o hm ha hb off).toT
theorem y_chain (hu : X.A.units + 65 < cLine) (o o' : Cop) (ha : SndE X φ ks cl E a a' ma ea) (hb : SndE X φ ks cl E b b' mb eb) (hc : SndE X φ ks cl E c c' mc ec) (off : ma.off eb = true := by rfl) (off' : mb.off ec = true := by rfl) (hm : lastMarks [o.py, o'.py] [b, c] = false := by rfl) :
    SndE X φ ks cl E (.Compare a [o.py, o'.py] [b, c] pos) (.chain o o' a' b' c') .im (ea ++ (eb ++ ec)) := (snd_chain hu o o' hm ha hb hc off off').toE
theorem y_chainT (hu : X.A.units + 65 < cLine) (o o' : Cop) (ha : SndE X φ ks cl E a a' ma ea) (hb : SndE X φ ks cl E b b' mb eb) (hc : SndE X φ ks cl E c c' mc ec) (off : ma.off eb = true := by rfl) (off' : mb.off ec = true := by rfl) (hm : lastMarks [o.py, o'.py] [b, c] = false := by rfl) :
    SndT X φ ks cl E (.Compare a [o.py, o'.py] [b, c] pos) (.chain o o' a' b' c') (ea ++ (eb ++ ec)) := (snd_chain hu o o' hm ha hb hc off off').toT
theorem y_T (ha : SndE X φ ks cl E a a' ma ea) (hp : plainTest a = true := by rfl) : SndT X φ ks cl E a a' ea := (ha.toV hp).toT
theorem y_tup (m : Md) {k : Nat} (h : SndD X φ ks cl E es irs m eff) (hl : irs.length ≤ 1000 := by decide) (hm : m ≠ .os := by decide) : SndE X φ ks cl E (.Tuple es k pos) (.tup irs) m eff := snd_tup hl hm h
theorem y_lst (m : Md) (h : SndD X φ ks cl E es irs m eff) (hl : irs.length ≤ 1000 := by decide) (hm : (m = .sh ∧ m = .sh) ∨ (m = .ow ∧ m = .ow) ∨ (m = .os ∧ m = .os) := by decide) : SndE X φ ks cl E (.List es pos) (.lst irs) m eff := snd_lst hl hm h
theorem y_d0 (hm : m = .im ∨ m = .sh ∨ m = .ow ∨ m = .os := by decide) : SndD X φ ks cl E [] [] m [] := sd_nil hm
theorem y_d (he : SndE X φ ks cl E e ir ma ea) (ht : SndD X φ ks cl E es irs m eb) (hle : ma.le m = true := by rfl) (hs : noStar e = true := by rfl) : SndD X φ ks cl E (e :: es) (ir :: irs) m (ea ++ eb) := sd_cons hs he hle ht
theorem y_ix (ha : SndE X φ ks cl E a a' ma ea) (hb : SndE X φ ks cl E b b' mb eb) (off : ma.off eb = true := by rfl) (hp : plainIx b = true := by rfl) (ht : ma.tmp = false := by rfl) : SndE X φ ks cl E (.Subscript a b pos) (.ix a' b') ma (ea ++ eb) := snd_ix hp ht ha hb off
theorem y_cat (m : Md) (ck : Bool) (ha : SndE X φ ks cl E a a' ma ea) (hb : SndE X φ ks cl E b b' mb eb) (off : ma.off eb = true := by rfl) (hm : mkOk ck (ma.bare && mb.bare) m = true := by rfl) : SndE X φ ks cl E (.BinOp a .Add b pos) (.cat ck a' b') m (ea ++ eb) := snd_cat ha hb off hm
theorem y_rep (m : Md) (ck : Bool) (ha : SndE X φ ks cl E a a' ma ea) (hb : SndE X φ ks cl E b b' mb eb) (off : ma.off eb = true := by rfl) (hm : mkOk ck ma.bare m = true := by rfl) : SndE X φ ks cl E (.BinOp a .Mult b pos) (.rep ck a' b') m (ea ++ eb) := snd_rep ha hb off hm
theorem y_sl (m : Md) (ck : Bool) {lo hi : Option Expr} {lo' hi' : Option CW.E} (ha : SndE X φ ks cl E a a' ma ea) (hl : SndO X φ ks cl E lo lo' eb) (hh : SndO X φ ks cl E hi hi' ec) (off : ma.off (eb ++ ec) = true := by rfl) (hm : mkOk ck ma.bare m = true := by rfl) :
    SndE X φ ks cl E (.Subscript a (.Slice lo hi none p2) pos) (.sl ck a' lo' hi') m (ea ++ (eb ++ ec)) := snd_sl ha hl hh off hm
theorem y_rev (m : Md) (ck : Bool) {k : Nat} {p1 p2 p3 : Pos} (ha : SndE X φ ks cl E a a' ma ea) (hm : mkOk ck ma.bare m = true := by rfl) :
    SndE X φ ks cl E (.Subscript a (.Slice none none (some (.UnaryOp .USub (.Constant (.int 1) k p1) p2)) p3) pos) (.rev ck a') m ea := snd_rev ha hm
theorem y_list (m : Md) (ck : Bool) (hn : X.mg "list" = none) (ha : SndE X φ ks cl E a a' ma ea) (hm : mkOk ck ma.bare m = true := by rfl) (hg : Gl X "list" := by rfl) (hs : noStar a = true := by rfl) : SndE X φ ks cl E (.Call (.Name "list" p) [a] [] pos) (.mk .list ck a') m ea := snd_list hg hn hs ha hm
theorem y_sorted (m : Md) (ck : Bool) (hn : X.mg "sorted" = none) (ha : SndE X φ ks cl E a a' ma ea) (hm : mkOk ck ma.bare m = true := by rfl) (hg : Gl X "sorted" := by rfl) (hs : noStar a = true := by rfl) (hc : X.calm = true := by rfl) : SndE X φ ks cl E (.Call (.Name "sorted" p) [a] [] pos) (.mk .sorted ck a') m ea := snd_sorted hc hg hn hs ha hm
theorem y_a {mm : List Md} (he : SndE X φ ks cl E e ir ma ea) (ht : SndA X φ ks cl E es irs mm eb) (off : ma.off eb = true := by rfl) (hs : noStar e = true := by rfl) : SndA X φ ks cl E (e :: es) (ir :: irs) (ma :: mm) (ea ++ eb) := sa_cons hs he off ht
theorem y_bi (b : Bi) {mm : List Md} (hn : X.mg b.name = none) (ha : SndA X φ ks cl E (e :: es) irs mm eff) (hb : b.plain = true := by rfl) (hg : Gl X b.name := by rfl) (hs : noStar e = true := by rfl) (hss : es.all noStar = true := by rfl) (hc : X.calm = true := by rfl) : SndE X φ ks cl E (.Call (.Name b.name p) (e :: es) [] pos) (.bi b irs) .im eff := snd_bi hc b hb hg hn hs hss ha
theorem y_nm (nd : X.N.Nodup) (i : Nat) (hN : X.N[i]? = some x := by rfl) (hl : Loc X.env.scope x := by first | exact Or.inl rfl | exact Or.inr rfl) (hf : X.fn x = true ∨ X.env.scope.names.lookup x = some .local := by first | exact Or.inl rfl | exact Or.inr rfl) (hi : i < ks.length := by decide) : NmOk X ks x i := ⟨nd, hN, hl, hf, hi⟩
theorem y_gn (nd : X.N.Nodup) (i : Nat) (ck : Bool) (hN : X.N[i]? = some x := by rfl) (hl : Loc X.env.scope x := by first | exact Or.inl rfl | exact Or.inr rfl) (hf : X.fn x = true ∨ X.env.scope.names.lookup x = some .local := by first | exact Or.inl rfl | exact Or.inr rfl) (hi : i < ks.length := by decide) (ht : takes ks m i ck = true := by rfl) : SndG X ks m (.Name x pos) (.nm i ck) := sg_nm ⟨nd, hN, hl, hf, hi⟩ ht
theorem y_gs {t : Tg} {ts : List Tg} (h1 : SndG X ks m e t) (h2 : SndGs X ks m es ts) (ho : m.off t.slots = true := by rfl) (hs : noStar e = true := by rfl) : SndGs X ks m (e :: es) (t :: ts) := sgs_cons hs ho h1 h2
theorem y_gt {k : Nat} {ts : List Tg} (h : SndGs X ks m es ts) (hc : X.calm = true := by rfl) (hm : m.tmp = false := by rfl) (hs : es.all noStar = true := by rfl) (hl : es.length = ts.length := by rfl) : SndG X ks m (.Tuple es k pos) (.tup ts) := sg_tup hc hm hs hl h
theorem y_r1 {mm : List Md} (hn : X.mg "range" = none) (ha : SndA X φ ks cl E [a] irs mm eff) (hg : Gl X "range" := by rfl) (hs : noStar a = true := by rfl) (hl : mm.length = 1 := by rfl) : SndR X φ ks cl E (.Call (.Name "range" p) [a] [] pos) irs eff := sr_1 hg hn hs hl ha
theorem y_r2 {mm : List Md} (hn : X.mg "range" = none) (ha : SndA X φ ks cl E [a, b] irs mm eff) (hg : Gl X "range" := by rfl) (hs : noStar a = true := by rfl) (hs2 : noStar b = true := by rfl) (hl : mm.length = 2 := by rfl) : SndR X φ ks cl E (.Call (.Name "range" p) [a, b] [] pos) irs eff := sr_2 hg hn hs hs2 hl ha
theorem y_c (he : SndE X φ ks cl E e ir ma ea) (ht : SndC X φ ks cl E es irs as eb) (off : ma.off eb = true := by rfl) (hs : noStar e = true := by rfl) : SndC X φ ks cl E (e :: es) (ir :: irs) (.e ma :: as) (ea ++ eb) := sc_cons hs he off ht
theorem y_io (i : Nat) (ht : SndC X φ ks cl E es irs as eb) (hoff : i ∉ eb := by decide) (hN : X.N[i]? = some x := by rfl) (hv : Vis X.env.scope x := by first | exact Or.inl rfl | exact Or.inr (Or.inl rfl) | exact Or.inr (Or.inr rfl)) (h1 : (x == ("__debug__" : Str)) = false := by decide) (h2 : (x == ("__classdict__" : Str)) = false := by decide) :
    SndC X φ ks cl E (.Name x p :: es) (.var i :: irs) (.io i :: as) eb := sc_io hN hv h1 h2 hoff ht
theorem y_call (n : Nat) {lv : Nat} {sg : FSig} {io : List (Nat × Nat)} (C : Cal X.prog X.w X.K X.mg X.base cl lv x sg (φ.f n)) (gd : X.A.guards = some []) (hr : Room lv X.A) (hx : ∀ σ, PassesAt (L2.CX X.prog X.w) X σ (E σ)) (ha : SndC X φ ks cl E (e :: es) irs as eff)
    (hg : Gl X x := by rfl) (hdb : (x == ("__debug__" : Str)) = false := by decide) (hs : noStar e = true := by rfl) (hss : es.all noStar = true := by rfl) (ok : fitB sg.pk as = true := by rfl) (hz : zB sg.rk as = true := by rfl) (hk : ioB ks as = true := by rfl) (hio : io = ioPairs as := by rfl) (nd : (io.map (·.2)).Nodup := by decide) :
    SndE X φ ks cl E (.Call (.Name x p) (e :: es) [] pos) (.call n irs io) sg.rk.md (eff ++ io.map (·.2)) := by
  obtain ⟨f, fd, ps, a1, a2, a3, a4⟩ := C.ex
  refine snd_call a1 gd hr hg a2 a3 a4 hx hdb hs hss ha (fit_of ok) ?_ (fun i x e => ?_) hio nd
  · unfold zB at hz
    split at hz
    · exact .inr (.inl (by assumption))
    · exact .inr (.inr (by assumption))
    · exact .inl ⟨by assumption, fun a ha => by simpa using List.all_eq_true.mp hz a ha⟩
    · cases hz
  · cases q : as[i]? with
    | none => rw [q] at e; cases e
    | some b =>
      rw [q] at e
      have := List.all_eq_true.mp hk b (List.mem_of_getElem? q)
      simp only [Option.bind_some] at e
      rw [e] at this
      simpa using this
theorem td_none : ∀ {Y : Cx}, PTs Y [] (tdIf φ X ks cl ec none) := pts_nil
theorem td_some {Y : Cx} (h : PT Y c (tDT φ X ks cl noE ec (some c'))) : PTs Y [c] (tdIf φ X ks cl ec (some c')) := pts_one h
end
end CW
/-! list(range(..)), comprehensions and statements as one writes them. -/
namespace CW
open PySem L2
section
variable {X : Cx} {φ : FEnv} {ks : List Kd} {cl : Nat → Addr} {E : L2.St → XK} {rm : Md} {G : Addr → Prop} {H : Hp} {σ : L2.St} {Γ : Env} {Φ : Nat → List Addr}
variable {me mi m1 ma mb mc ms : Md} {eff eff' es' ea eb ec w w' wa wb : List Nat} {pos pos' p p2 : Pos} {x : Str} {a b c e iter tgE eltE : Expr} {a' b' c' ir iter' elt : CW.E} {es ifs : List Expr} {irs : List CW.E} {as : List Arg} {st : Stmt} {sts sts' : List Stmt} {s' : S} {ss ss' : List S} {tg : Tg} {scope : Scope}
theorem rgV_map {a b : Int} : rgV a b = (rngL a (b - a).toNat).map fun d => match d with | .int i => V.int i | _ => .non := by
  apply List.ext_getElem?
  intro i
  unfold rgV
  rw [List.getElem?_map, List.getElem?_map]
  by_cases h : i < (b - a).toNat
  · rw [rngL_get h, List.getElem?_range h]
    rfl
  · have h1 : (rngL a (b - a).toNat)[i]? = none := List.getElem?_eq_none (by rw [rngL_len]; omega)
    have h2 : (List.range (b - a).toNat)[i]? = none := List.getElem?_eq_none (by rw [List.length_range]; omega)
    rw [h1, h2]
    rfl
theorem els_rg {K : PySem.W.Frag} {a b : Int} {B : Bool} : Els K G H B (rgV a b) (rngL a (b - a).toNat) := by
  refine ⟨by rw [rgV_length, rngL_len], fun i v d h1 h2 => ?_⟩
  rw [rgV_map, List.getElem?_map, h2] at h1
  have hi : i < (b - a).toNat := by
    have := (List.getElem?_eq_some_iff.mp h2).1
    rw [rngL_len] at this
    exact this
  rw [rngL_get hi] at h2
  cases h2
  cases h1
  exact ⟨[], .int, fun _ => rfl⟩
theorem y_lrng1 (hl : X.mg "list" = none) (hn : X.mg "range" = none) (ha : SndE X φ ks cl E a a' ma ea) (hg : Gl X "range" := by rfl) (hg2 : Gl X "list" := by rfl) (hs : noStar a = true := by rfl) (hc : X.calm = true := by rfl) :
    SndE X φ ks cl E (.Call (.Name "list" p) [.Call (.Name "range" p2) [a] [] pos] [] pos') (.rng [a']) .ow ea := by
  obtain ⟨t, pa, qa⟩ := ha
  refine ⟨_, pe_listRg hc hg2 hl (prg_1 hg hn pa (noStar_ok hs _)), fun G H σ Γ Φ Q I h => ?_⟩
  simp only [evE, evEs, bind_assoc, bind_ok] at h
  refine qa G H σ Γ Φ _ I (h.seq sub_all fun x Γ1 G1 H1 Φ1 v I1 s1 r1 h1 => ?_)
  obtain ⟨F1, r1, _⟩ := r1
  have o1 := r1.own
  simp only [rngD_eq] at h1
  cases x <;> first | exact h1.elim | skip
  rename_i n
  cases o1
  simp only [rngD0] at h1
  split at h1
  · rename_i hb
    simp only [ofo_some, bind_ok] at h1
    have hz := sizes62
    have e : (n - 0).toNat = n.toNat := by rw [Int.sub_zero]
    refine ⟨n, rfl, ⟨by omega, by omega, by omega, by omega, ?_⟩, ?_⟩
    · have : (sizeLine : Int) = 16777216 := by rw [sizeLine_eq]; rfl
      omega
    · refine mk_fin (ck := true) (vs := rgV 0 n) (ds := rngL 0 (n - 0).toNat) (B := true) (o := some (.lst (rngL 0 n.toNat))) I1 (fun q hq => s1.ex q hq) h1 ?_ els_rg rfl ?_
      · rw [e]
        unfold okL
        rw [if_pos]
        simp only [Bool.not_true, Bool.false_or, List.all_eq_true]
        intro d hd
        obtain ⟨j, hj⟩ := List.getElem?_of_mem hd
        have hl := (List.getElem?_eq_some_iff.mp hj).1
        rw [rngL_len] at hl
        rw [rngL_get hl] at hj
        cases hj
        simp
      · rw [rngL_len]
        omega
  · exact h1.elim
theorem y_lcl {c : Option CW.E} (me m : Md) (own : List (Str × Nat)) (nd : X.N.Nodup) (hs : SndE X φ ks cl E iter iter' ms es') (hg : ∀ (s : Shared) (H : Hp) (C : Addr) (cl' : List (Str × Addr)) (fp : List Addr), SndG (X.blk s H scope (compEnvC scope cl' C X.env) fp) ks ms tgE tg)
    (ht : ∀ (s : Shared) (H : Hp) (C : Addr) (cl' : List (Str × Addr)) (fp : List Addr), PTs (X.blk s H scope (compEnvC scope cl' C X.env) fp) ifs (tdIf φ X ks cl ec c)) (he : ∀ (s : Shared) (H : Hp) (C : Addr) (cl' : List (Str × Addr)) (fp : List Addr), SndE (X.blk s H scope (compEnvC scope cl' C X.env) fp) φ ks cl noE eltE elt m1 ea)
    (ok : blkC X.N X.env.scope scope own = true := by kernel_rfl) (fr : ∀ j ∈ own.map (·.2), (kd ks j).fr = true := by decide) (sl : ∀ j ∈ tg.slots, j ∈ own.map (·.2) := by decide) (off : ms.off (ec ++ ea) = true := by rfl) (hle : m1.le me = true := by rfl) (hm : lcM me m = true := by rfl) (htm : ms.tmp = false := by rfl) (hset : noSet iter = true := by rfl) (hc : X.calm = true := by rfl) :
    SndLC X φ ks cl E (.ListComp eltE [⟨tgE, iter, ifs, 0⟩] scope pos) (.lcl false (own.map (·.2)) tg iter' c elt) m (es' ++ (ec ++ ea)) :=
  snd_lcl hc nd hset hs htm off ⟨blkOk_by ok, fun s H C cl' fp => (hg s H C cl' fp).canon, ht, fun s H C cl' fp => (he s H C cl' fp).canon, fr, sl⟩ hle hm
theorem y_lct {c : Option CW.E} (me m : Md) (own : List (Str × Nat)) (nd : X.N.Nodup) (hs : SndE X φ ks cl E iter iter' ms es') (hg : ∀ (s : Shared) (H : Hp) (C : Addr) (cl' : List (Str × Addr)) (fp : List Addr), SndG (X.blk s H scope (compEnvC scope cl' C X.env) fp) ks ms tgE tg)
    (ht : ∀ (s : Shared) (H : Hp) (C : Addr) (cl' : List (Str × Addr)) (fp : List Addr), PTs (X.blk s H scope (compEnvC scope cl' C X.env) fp) ifs (tdIf φ X ks cl ec c)) (he : ∀ (s : Shared) (H : Hp) (C : Addr) (cl' : List (Str × Addr)) (fp : List Addr), SndE (X.blk s H scope (compEnvC scope cl' C X.env) fp) φ ks cl noE eltE elt m1 ea)
    (ok : blkC X.N X.env.scope scope own = true := by kernel_rfl) (fr : ∀ j ∈ own.map (·.2), (kd ks j).fr = true := by decide) (sl : ∀ j ∈ tg.slots, j ∈ own.map (·.2) := by decide) (off : ms.off (ec ++ ea) = true := by rfl) (hle : m1.le me = true := by rfl) (hm : lcM me m = true := by rfl) (htm : ms.tmp = false := by rfl) (hset : noSet iter = true := by rfl) (hc : X.calm = true := by rfl) :
    SndLC X φ ks cl E (.ListComp eltE [⟨tgE, iter, ifs, 0⟩] scope pos) (.lcl true (own.map (·.2)) tg iter' c elt) m (es' ++ (ec ++ ea)) :=
  snd_lct hc nd hset hs htm off ⟨blkOk_by ok, fun s H C cl' fp => (hg s H C cl' fp).canon, ht, fun s H C cl' fp => (he s H C cl' fp).canon, fr, sl⟩ hle hm
theorem y_lcr {c : Option CW.E} (me m : Md) (own : List (Str × Nat)) (nd : X.N.Nodup) (hs : SndR X φ ks cl E iter irs es') (hg : ∀ (s : Shared) (H : Hp) (C : Addr) (cl' : List (Str × Addr)) (fp : List Addr), SndG (X.blk s H scope (compEnvC scope cl' C X.env) fp) ks .im tgE tg)
    (ht : ∀ (s : Shared) (H : Hp) (C : Addr) (cl' : List (Str × Addr)) (fp : List Addr), PTs (X.blk s H scope (compEnvC scope cl' C X.env) fp) ifs (tdIf φ X ks cl ec c)) (he : ∀ (s : Shared) (H : Hp) (C : Addr) (cl' : List (Str × Addr)) (fp : List Addr), SndE (X.blk s H scope (compEnvC scope cl' C X.env) fp) φ ks cl noE eltE elt m1 ea)
    (ok : blkC X.N X.env.scope scope own = true := by kernel_rfl) (fr : ∀ j ∈ own.map (·.2), (kd ks j).fr = true := by decide) (sl : ∀ j ∈ tg.slots, j ∈ own.map (·.2) := by decide) (hle : m1.le me = true := by rfl) (hm : lcM me m = true := by rfl) (hset : noSet iter = true := by rfl) (hc : X.calm = true := by rfl) :
    SndLC X φ ks cl E (.ListComp eltE [⟨tgE, iter, ifs, 0⟩] scope pos) (.lcr (own.map (·.2)) tg irs c elt) m (es' ++ (ec ++ ea)) :=
  snd_lcr hc nd hset hs ⟨blkOk_by ok, fun s H C cl' fp => (hg s H C cl' fp).canon, ht, fun s H C cl' fp => (he s H C cl' fp).canon, fr, sl⟩ hle hm
/-! ### statements -/
theorem y_asg (nd : X.N.Nodup) (i : Nat) (ha : SndE X φ ks cl E a a' ma ea) (hm : ma.to (kd ks i) = true := by rfl) (hc : noComp a = true := by rfl) (hN : X.N[i]? = some x := by rfl) (hl : Loc X.env.scope x := by first | exact Or.inl rfl | exact Or.inr rfl) (hf : X.fn x = true ∨ X.env.scope.names.lookup x = some .local := by first | exact Or.inl rfl | exact Or.inr rfl) (hi : i < ks.length := by decide) :
    SndS X φ ks cl E rm (.Assign [.Name x p] a pos) (.asg i a') (ea ++ [i]) [i] := snd_asg ⟨nd, hN, hl, hf, hi⟩ hm hc ha
theorem y_asgL (nd : X.N.Nodup) (i : Nat) {gs : List Comprehension} (ha : SndLC X φ ks cl E (.ListComp eltE gs scope pos') a' ma ea) (hm : ma.to (kd ks i) = true := by rfl) (hN : X.N[i]? = some x := by rfl) (hl : X.env.scope.names.lookup x = some .local := by rfl) (hk : X.env.scope.kind = .function := by rfl) (hln : (p.line == pos'.line) = true := by decide)
    (hz : (scope.names.any fun (n, k) => n == x && (k == .local || k == .cell)) = false := by kernel_rfl) (hi : i < ks.length := by decide) :
    SndS X φ ks cl E rm (.Assign [.Name x p] (.ListComp eltE gs scope pos') pos) (.asg i a') (ea ++ [i]) [i] := snd_asgL ⟨nd, hN, .inl hl, .inr hl, hi⟩ hl hm (sw_true hk hl hln hz) ha
theorem y_aug (nd : X.N.Nodup) (i : Nat) (o : Bop) {op : Operator} {f : Int → Int → Int} (ha : SndE X φ ks cl E a a' ma ea) (ho : o.ip = some (op, f) := by rfl) (hk : kd ks i = .im ∨ kd ks i = .ow ∨ kd ks i = .sh := by decide) (hoff : i ∉ ea := by decide) (hN : X.N[i]? = some x := by rfl) (hl : Loc X.env.scope x := by first | exact Or.inl rfl | exact Or.inr rfl) (hf : X.fn x = true ∨ X.env.scope.names.lookup x = some .local := by first | exact Or.inl rfl | exact Or.inr rfl) (hi : i < ks.length := by decide) :
    SndS X φ ks cl E rm (.AugAssign (.Name x p) op a pos) (.aug i o a') (ea ++ [i]) [i] := snd_aug ho ⟨nd, hN, hl, hf, hi⟩ hk ha hoff
theorem y_asgT {k : Nat} {ts : List Tg} (ha : SndE X φ ks cl E a a' ma ea) (hg : SndG X ks ma (.Tuple es k p) (.tup ts)) (hm : ∀ vs k p, a ≠ .Tuple vs k p := by intro _ _ _ h; cases h) (hc : noComp a = true := by rfl) :
    SndS X φ ks cl E rm (.Assign [.Tuple es k p] a pos) (.asgT ts a') (ea ++ Tg.slotsL ts) (Tg.slotsL ts) := snd_asgT hm hc hg ha
theorem y_app (i : Nat) (ha : SndE X φ ks cl E a a' ma ea) (hk : (kd ks i).el ma = true := by rfl) (hoff : i ∉ ea := by decide) (hs : noStar a = true := by rfl) (hl : (p2.endLine == pos'.line) = true := by decide) (hN : X.N[i]? = some x := by rfl) (hv : Vis X.env.scope x := by first | exact Or.inl rfl | exact Or.inr (Or.inl rfl) | exact Or.inr (Or.inr rfl)) (h1 : (x == ("__debug__" : Str)) = false := by decide) (h2 : (x == ("__classdict__" : Str)) = false := by decide) :
    SndS X φ ks cl E rm (.Expr (.Call (.Attribute (.Name x p) "append" p2) [a] [] pos') pos) (.app i a') (ea ++ [i]) [] := snd_app hN hv h1 h2 hs hl hk ha hoff
theorem y_ext (i : Nat) (ha : SndE X φ ks cl E a a' ma ea) (hk : (kd ks i).el ma = true := by rfl) (hoff : i ∉ ea := by decide) (hs : noStar a = true := by rfl) (hl : (p2.endLine == pos'.line) = true := by decide) (hN : X.N[i]? = some x := by rfl) (hv : Vis X.env.scope x := by first | exact Or.inl rfl | exact Or.inr (Or.inl rfl) | exact Or.inr (Or.inr rfl)) (h1 : (x == ("__debug__" : Str)) = false := by decide) (h2 : (x == ("__classdict__" : Str)) = false := by decide) :
    SndS X φ ks cl E rm (.Expr (.Call (.Attribute (.Name x p) "extend" p2) [a] [] pos') pos) (.ext i a') (ea ++ [i]) [] := snd_ext hN hv h1 h2 hs hl hk ha hoff
theorem y_popAt (i : Nat) (ha : SndE X φ ks cl E a a' ma ea) (hk : kd ks i = .ow := by rfl) (hoff : i ∉ ea := by decide) (hs : noStar a = true := by rfl) (hl : (p2.endLine == pos.line) = true := by decide) (hN : X.N[i]? = some x := by rfl) (hv : Vis X.env.scope x := by first | exact Or.inl rfl | exact Or.inr (Or.inl rfl) | exact Or.inr (Or.inr rfl)) (h1 : (x == ("__debug__" : Str)) = false := by decide) (h2 : (x == ("__classdict__" : Str)) = false := by decide) :
    SndE X φ ks cl E (.Call (.Attribute (.Name x p) "pop" p2) [a] [] pos) (.pop i (some a')) .ow (ea ++ [i]) := snd_popAt hN hv h1 h2 hs hl hk ha hoff
theorem y_pop (i : Nat) (hk : kd ks i = .ow := by rfl) (hl : (p2.endLine == pos.line) = true := by decide) (hN : X.N[i]? = some x := by rfl) (hv : Vis X.env.scope x := by first | exact Or.inl rfl | exact Or.inr (Or.inl rfl) | exact Or.inr (Or.inr rfl)) (h1 : (x == ("__debug__" : Str)) = false := by decide) (h2 : (x == ("__classdict__" : Str)) = false := by decide) :
    SndE X φ ks cl E (.Call (.Attribute (.Name x p) "pop" p2) [] [] pos) (.pop i none) .ow [i] := snd_pop hN hv h1 h2 hl hk
theorem y_ret (ha : SndE X φ ks cl E a a' ma ea) (hm : ma.ret rm = true := by rfl) : SndS X φ ks cl E rm (.Return (some a) pos) (.ret a') ea [] := snd_ret hm ha
theorem y_ex (ha : SndE X φ ks cl E a a' ma ea) (hc : noComp a = true := by rfl) : SndS X φ ks cl E rm (.Expr a pos) (.ex a') ea [] := snd_ex hc ha
theorem y_forl (px : PassesOwn (model X.prog X.w) X.A X.env X.xe) (hs : SndE X φ ks cl E iter iter' ms es') (hg : SndG X ks ms tgE tg) (hb : SndSs X φ ks cl E rm sts ss ea wa) (off : ms.off (tg.slots ++ ea) = true := by rfl) (htm : ms.tmp = false := by rfl) (hset : noSet iter = true := by rfl) (hc : X.calm = true := by rfl) :
    SndS X φ ks cl E rm (.For tgE iter sts [] pos) (.forl false tg iter' ss) (es' ++ (tg.slots ++ ea)) (tg.slots ++ wa) := snd_forl px hc hset hs htm hg hb off
theorem y_fort (px : PassesOwn (model X.prog X.w) X.A X.env X.xe) (hs : SndE X φ ks cl E iter iter' ms es') (hg : SndG X ks ms tgE tg) (hb : SndSs X φ ks cl E rm sts ss ea wa) (off : ms.off (tg.slots ++ ea) = true := by rfl) (htm : ms.tmp = false := by rfl) (hset : noSet iter = true := by rfl) (hc : X.calm = true := by rfl) :
    SndS X φ ks cl E rm (.For tgE iter sts [] pos) (.forl true tg iter' ss) (es' ++ (tg.slots ++ ea)) (tg.slots ++ wa) := snd_fort px hc hset hs htm hg hb off
theorem y_forr (px : PassesOwn (model X.prog X.w) X.A X.env X.xe) (hs : SndR X φ ks cl E iter irs es') (hg : SndG X ks .im tgE tg) (hb : SndSs X φ ks cl E rm sts ss ea wa) (hset : noSet iter = true := by rfl) (hc : X.calm = true := by rfl) :
    SndS X φ ks cl E rm (.For tgE iter sts [] pos) (.forr tg irs ss) (es' ++ (tg.slots ++ ea)) (tg.slots ++ wa) := snd_forr px hc hset hs hg hb
theorem y_setp (x : Nat) {path : List CW.E} {ep ei : List Nat} (he : SndE X φ ks cl E e ir me ea) (hb : SndP X φ ks cl E a x path ep) (hi : SndE X φ ks cl E b b' mi ei) (hk : kd ks x = .ow := by rfl) (hm : me.le .ow = true := by rfl) (hc : noComp e = true := by rfl) (hpl : plainIx b = true := by rfl) (hs : simpE b' = true := by rfl) (hx : x ∉ ei := by decide) (ho : me.off (ep ++ ei) = true := by rfl) :
    SndS X φ ks cl E rm (.Assign [.Subscript a b p] e pos) (.setp x path b' ir) (ea ++ (ep ++ ei) ++ [x]) [] := snd_setp hk hm hc hpl hs hx ho he hb hi
theorem y_p0 {n : Str} (x : Nat) (hN : X.N[x]? = some n := by rfl) (hv : Vis X.env.scope n := by first | exact Or.inl rfl | exact Or.inr (Or.inl rfl) | exact Or.inr (Or.inr rfl)) (h1 : (n == ("__debug__" : Str)) = false := by decide) (h2 : (n == ("__classdict__" : Str)) = false := by decide) : SndP X φ ks cl E (.Name n p) x [] [] := sp_nil hN hv h1 h2
theorem y_p {x : Nat} {path : List CW.E} {ep ei : List Nat} (hb : SndP X φ ks cl E a x path ep) (hi : SndE X φ ks cl E b b' mi ei) (hk : kd ks x = .ow := by rfl) (hpl : plainIx b = true := by rfl) (hs : simpE b' = true := by rfl) (hx : x ∉ ei := by decide) : SndP X φ ks cl E (.Subscript a b pos) x (path ++ [b']) (ep ++ ei) := sp_snoc hk hpl hs hx hb hi
/-- a row that is never come to -/
def dead : S := .ex (.bin .add (.cn .non) (.cn .non))
theorem y_dead : SndS X φ ks cl E rm st dead [] [] := ⟨_, ps_never, fun G H σ Γ Φ D0 I h => by
  have e : evS φ dead Γ = .bad := rfl
  rw [e] at h
  exact h.elim⟩
theorem y_isi {T : String} (b : Bi) (hn : X.mg "isinstance" = none) (hn2 : X.mg T = none) (ha : SndE X φ ks cl E a a' ma ea) (hT : b.ty = some T := by rfl) (hg : Gl X "isinstance" := by rfl) (hg2 : Gl X T := by rfl) (hs : noStar a = true := by rfl) :
    SndE X φ ks cl E (.Call (.Name "isinstance" p) [a, .Name T p2] [] pos) (.bi b [a']) .im ea := snd_isi b hT hg hn hg2 hn2 hs ha
theorem sw_cell {elt : Expr} {gs : List Comprehension} {scope : Scope} {pos py : Pos} {y : Str} {l : Nat} {env : PySem.Env} (hy : env.scope.names.lookup y = some .cell) : swapsWith (.ListComp elt gs scope pos) (some (.Name y py)) l env = pure false := by
  have ky : (env.kindOf y == some .local) = false := by
    have : env.kindOf y = some .cell := hy
    rw [this]
    rfl
  unfold swapsWith
  simp only [ky, Bool.and_false, Bool.false_and, pure_bind]
theorem y_asgC (nd : X.N.Nodup) (i : Nat) {gs : List Comprehension} (ha : SndLC X φ ks cl E (.ListComp eltE gs scope pos') a' ma ea) (hm : ma.to (kd ks i) = true := by rfl) (hN : X.N[i]? = some x := by rfl) (hl : X.env.scope.names.lookup x = some .cell := by rfl) (hf : X.fn x = true := by rfl) (hi : i < ks.length := by decide) :
    SndS X φ ks cl E rm (.Assign [.Name x p] (.ListComp eltE gs scope pos') pos) (.asg i a') (ea ++ [i]) [i] := snd_asgF ⟨nd, hN, .inr hl, .inl hf, hi⟩ hm (sw_cell hl) ha.toE
end
end CW
/-! A list within a list of one's own, held by a second name for a while. -/
namespace CW
open PySem L2
section
variable {G G' : Addr → Prop} {H H' : Hp} {K : PySem.W.Frag}
theorem OwnL.cut : ∀ {F : List Addr} {vs : List V} {ds : List D} {j : Nat} {z : D}, OwnL K NoG H F vs ds → ds[j]? = some z → ∃ u F1, vs[j]? = some u ∧ Own K NoG H F1 u z ∧ (∀ q ∈ F1, q ∈ F) ∧
    ∀ {W : Addr → Prop} {H' : Hp} {u' : V} {z' : D} {F3 : List Addr}, Kp W H H' → Wl W H → (∀ q ∈ F, W q → q ∈ F1) → Own K NoG H' F3 u' z' → (∀ q ∈ F3, q ∈ F → q ∈ F1) → ∃ F2, OwnL K NoG H' F2 (vs.set j u') (ds.set j z') ∧ ∀ q ∈ F2, (q ∈ F ∧ q ∉ F1) ∨ q ∈ F3
  | _, _, _, _, _, .nil, e => by simp at e
  | _, _, _, 0, z, .cons (F := A) (F' := B) h t n, e => by
    have e' := Option.some.inj e
    subst e'
    refine ⟨_, A, rfl, h, fun p hp => List.mem_append_left _ hp, fun {W H' u' z' F3} k wl hw o hF => ⟨F3 ++ B, .cons o (OwnL.keep k wl (fun _ h => h.elim) (fun _ h => h) t fun q hq x => ?_) fun q hq hq' => ?_, fun q hq => ?_⟩⟩
    · exact n q (hw q (List.mem_append_right _ hq) x) hq
    · exact n q (hF q hq (List.mem_append_right _ hq')) hq'
    · rcases List.mem_append.mp hq with hq | hq
      · exact .inr hq
      · exact .inl ⟨List.mem_append_right _ hq, fun z => n q z hq⟩
  | _, _, _, j + 1, z, .cons (F := A) (F' := B) h t n, e => by
    obtain ⟨u, F1, h1, h2, h3, h4⟩ := OwnL.cut t (j := j) (z := z) (by simpa using e)
    refine ⟨u, F1, by simpa using h1, h2, fun q hq => List.mem_append_right _ (h3 q hq), fun {W H' u' z' F3} k wl hw o hF => ?_⟩
    obtain ⟨F2, o2, s2⟩ := h4 k wl (fun q hq x => hw q (List.mem_append_right _ hq) x) o fun q hq hB => hF q hq (List.mem_append_right _ hB)
    refine ⟨A ++ F2, .cons (Own.keep k wl (fun _ h => h.elim) (fun _ h => h) h fun q hq x => ?_) o2 fun q hq hq' => ?_, fun q hq => ?_⟩
    · exact n q hq (h3 q (hw q (List.mem_append_left _ hq) x))
    · rcases s2 q hq' with x | x
      · exact n q hq x.1
      · exact n q hq (h3 q (hF q x (List.mem_append_left _ hq)))
    · rcases List.mem_append.mp hq with hq | hq
      · exact .inl ⟨List.mem_append_left _ hq, fun z => n q hq (h3 q z)⟩
      · rcases s2 q hq with x | x
        · exact .inl ⟨List.mem_append_right _ x.1, x.2⟩
        · exact .inr x
abbrev ks5 : List Kd := [.ow, .sh, .ow, .im, .im]
def phJ (Fj : List Addr) : Nat → List Addr := fun i => if i = 2 then Fj else []
theorem phJ_mem {Fj : List Addr} {i : Nat} {p : Addr} (h : p ∈ phJ Fj i) : i = 2 ∧ p ∈ Fj := by
  unfold phJ at h
  split at h
  · exact ⟨by assumption, h⟩
  · exact nomatch h
theorem borrow {v0 v1 : V} {pools : List D} {at_ : Int} {m q : D} {j : Nat} {Φ : Nat → List Addr} (I : SI K [.ow, .sh] G H [some v0, some v1] [some (.lst [.lst pools, .int at_]), some m] Φ) (hq : pools[j]? = some q) :
    ∃ p0 p1 us u Fj, v0 = .ref p0 ∧ H p0 = some (.lst [.ref p1, .int at_]) ∧ H p1 = some (.lst us) ∧ us.length = pools.length ∧ us[j]? = some u ∧
      SI K ks5 G (upd H p0 (.lst [.ref p1, .int (at_ + 1)])) [some v0, some v1, some u, none, none] [none, some m, some q, none, none] (phJ Fj) ∧
      ∀ {eff wr : List Nat} {H0 : Hp} {G' : Addr → Prop} {H' : Hp} {σ' : L2.St} {Γ' : Env} {Φ' : Nat → List Addr} {q' : D}, (∀ p o, H p = some o → p ≠ p0 → H0 p = some o) → H0 p0 = some (.lst [.ref p1, .int (at_ + 1)]) → (∀ p, H0 p = none → H p = none) →
        SI K ks5 G' H' σ' Γ' Φ' → Step eff G H0 (phJ Fj) [none, some m, some q, none, none] G' H' Φ' Γ' → Agr wr [some v0, some v1, some u, none, none] σ' → (1 ∉ eff ∧ 1 ∉ wr ∧ 2 ∉ wr) → get Γ' 2 = some q' →
        ∃ Φp, SI K [.ow, .sh] G' H' [some v0, some v1] [some (.lst [.lst (pools.set j q'), .int (at_ + 1)]), some m] Φp ∧ Step [0] G H Φ [some (.lst [.lst pools, .int at_]), some m] G' H' Φp [some (.lst [.lst (pools.set j q'), .int (at_ + 1)]), some m] := by
  obtain ⟨w0, e0, o0⟩ := I.slot 0 _ rfl
  cases e0
  obtain ⟨w1, e1, o1⟩ := I.slot 1 _ rfl
  cases e1
  have hΦ1 : Φ 1 = [] := I.sh 1 rfl
  have hout : ∀ i, i ≠ 0 → Φ i = [] := fun i hi => by
    match i, hi with
    | 1, _ => exact hΦ1
    | n + 2, _ => exact I.non _ fun d h => by cases h
  rw [hΦ1] at o1
  generalize hF : Φ 0 = F0 at o0
  cases o0 with
  | frz g _ _ _ => exact g.elim
  | lst h0 ol0 n0 z0 =>
  rename_i p0 xs F00
  cases ol0 with
  | cons oa ob dab =>
  cases ob with
  | cons oi on _ =>
  cases oi
  cases on
  cases oa with
  | frz g _ _ _ => exact g.elim
  | lst h1 ol n1 z1 =>
  rename_i p1 us F2
  have hn0 : p0 ∉ F2 ∧ p0 ≠ p1 := by
    refine ⟨fun h => n0 (List.mem_append_left _ (List.mem_cons_of_mem _ h)), fun h => n0 (List.mem_append_left _ (h ▸ List.mem_cons_self))⟩
  have in0 : ∀ x, x ∈ F2 → x ∈ Φ 0 := fun x hx => by
    rw [hF]
    exact List.mem_cons_of_mem _ (List.mem_append_left _ (List.mem_cons_of_mem _ hx))
  have p0in : p0 ∈ Φ 0 := by rw [hF]; exact List.mem_cons_self
  have p1in : p1 ∈ Φ 0 := by rw [hF]; exact List.mem_cons_of_mem _ (List.mem_append_left _ List.mem_cons_self)
  obtain ⟨u, Fj, hu, oj, sj, back⟩ := ol.cut hq
  refine ⟨p0, p1, us, u, Fj, rfl, h0, h1, ol.len, hu, ?_, ?_⟩
  · have kp := @upd_kp H p0 (.lst [.ref p1, .int (at_ + 1)])
    have wl := upd_wl h0
    refine ⟨rfl, rfl, fun i d h => ?_, fun i h => ?_, fun i h => ?_, fun i d h ho => ?_, fun i k hik p hp hp' => ?_, fun i p hp g => ?_, fun p g => upd_nn (I.gl p g)⟩
    · match i, h with
      | 1, h =>
        cases h
        exact ⟨_, rfl, o1.keep kp wl (fun p g e => I.gd 0 p (e ▸ p0in) g) (fun _ h => h) fun _ h => nomatch h⟩
      | 2, h =>
        cases h
        exact ⟨_, rfl, oj.keep kp wl (fun _ h => h.elim) (fun _ h => h) fun p hp e => hn0.1 (e ▸ sj p hp)⟩
      | 3, h => cases h
      | 4, h => cases h
      | n + 5, h => cases h
    · by_cases hi : i = 2
      · subst hi
        exact absurd rfl (h q)
      · exact if_neg hi
    · by_cases hi : i = 2
      · subst hi
        cases h
      · exact if_neg hi
    · match i, h with
      | 1, _ => cases ho
      | 2, _ => cases ho
      | 3, _ => cases ho
      | 4, _ => cases ho
      | n + 5, h => cases h
    · obtain ⟨rfl, _⟩ := phJ_mem hp
      obtain ⟨rfl, _⟩ := phJ_mem hp'
      exact hik rfl
    · obtain ⟨rfl, hj⟩ := phJ_mem hp
      exact I.gd 0 p (in0 p (sj p hj)) g
  · intro eff wr H0 G' H' σ' Γ' Φ' q' k1 k2 k3 I' s ag ne hg
    obtain ⟨x2, f2, oq⟩ := I'.slot 2 _ (gets hg)
    rw [ag 2 ne.2.2] at f2
    cases f2
    have hm : Γ'[1]? = some (some m) := by
      rw [(s.fx 1 ne.1).2]
      rfl
    obtain ⟨x1, f1, om⟩ := I'.slot 1 _ hm
    rw [ag 1 ne.2.1] at f1
    cases f1
    rw [I'.sh 1 rfl] at om
    have keepc : ∀ p o, H p = some o → p ≠ p0 → p ∉ Fj → H' p = some o := fun p o h h2 h3 => s.kp p o (k1 p o h h2) fun i _ hp => h3 (phJ_mem hp).2
    have keep0 : H' p0 = some (.lst [.ref p1, .int (at_ + 1)]) := s.kp p0 _ k2 fun i _ hp => hn0.1 (sj p0 (phJ_mem hp).2)
    have fresh : ∀ p ∈ Φ' 2, p ∈ Fj ∨ H p = none := fun p hp => by
      by_cases h : 2 ∈ eff
      · rcases s.fn 2 h p hp with ⟨l, _, z⟩ | z
        · exact .inl (phJ_mem z).2
        · exact .inr (k3 p z)
      · rw [(s.fx 2 h).1] at hp
        exact .inl (phJ_mem hp).2
    have wl : Wl (fun p => p = p0 ∨ p ∈ Fj) H := fun p hp o h => by
      obtain ⟨ys, z⟩ := I.mut 0 p (by
        rcases hp with rfl | hp
        · exact p0in
        · exact in0 p (sj p hp))
      rw [h] at z
      exact ⟨ys, Option.some.inj z⟩
    have inH : ∀ p ∈ Φ 0, H p ≠ none := fun p hp z => by
      obtain ⟨ys, e⟩ := I.mut 0 p hp
      rw [e] at z
      cases z
    obtain ⟨F5, o5, s5⟩ := back (W := fun p => p = p0 ∨ p ∈ Fj) (H' := H') (F3 := Φ' 2) (fun p o h n => keepc p o h (fun e => n (.inl e)) fun e => n (.inr e)) wl (fun p hp h => by
      rcases h with rfl | h
      · exact absurd hp hn0.1
      · exact h) oq fun p hp h => (fresh p hp).elim id fun z => absurd z (inH p (in0 p h))
    rw [set_self hu] at o5
    have n1' : p1 ∉ Fj := fun h => n1 (sj p1 h)
    have nf : ∀ p ∈ F5, p ≠ p0 ∧ p ≠ p1 := fun p hp => by
      rcases s5 p hp with ⟨x, _⟩ | x
      · exact ⟨fun e => hn0.1 (e ▸ x), fun e => n1 (e ▸ x)⟩
      · rcases fresh p x with y | y
        · exact ⟨fun e => hn0.1 (e ▸ sj p y), fun e => n1' (e ▸ y)⟩
        · exact ⟨fun e => inH p0 p0in (e ▸ y), fun e => inH p1 p1in (e ▸ y)⟩
    have h1' : H' p1 = some (.lst us) := keepc p1 _ h1 hn0.2.symm n1'
    have ng : ∀ p, p ∈ Φ 0 → p ∉ Fj → ¬ G' p := fun p hp hj g => by
      rcases s.gn p g with z | z | ⟨l, _, z⟩
      · exact I.gd 0 p hp z
      · exact inH p hp (k3 p z)
      · exact hj (phJ_mem z).2
    have oD : Own K NoG H' (p0 :: ((p1 :: F5) ++ [])) (.ref p0) (.lst [.lst (pools.set j q'), .int (at_ + 1)]) := by
      refine .lst keep0 (.cons (.lst h1' o5 (fun h => (nf p1 h).2 rfl) (by rw [List.length_set]; exact z1)) (.cons (F := []) (F' := []) .int .nil fun _ h => nomatch h) fun _ _ h => nomatch h) (fun h => ?_) (by show 2 ≤ sizeLine; decide)
      rw [List.append_nil] at h
      rcases List.mem_cons.mp h with h | h
      · exact hn0.2 h
      · exact (nf p0 h).1 rfl
    have mem5 : ∀ p ∈ p0 :: ((p1 :: F5) ++ []), p = p0 ∨ p = p1 ∨ p ∈ F5 := fun p hp => by
      rw [List.append_nil] at hp
      rcases List.mem_cons.mp hp with h | h
      · exact .inl h
      · exact .inr (List.mem_cons.mp h)
    have p0j : p0 ∉ Fj := fun h => hn0.1 (sj p0 h)
    refine ⟨fun i => if i = 0 then p0 :: ((p1 :: F5) ++ []) else [], ⟨rfl, rfl, fun i d h => ?_, fun i h => ?_, fun i h => ?_, fun i d h ho => ?_, fun i k hik p hp hp' => ?_, fun i p hp g => ?_, I'.gl⟩, ⟨s.g, fun p g => ?_, fun p o h n => ?_, fun i hi => ?_, fun i hi p hp => ?_, fun p h => k3 p (s.ex p h)⟩⟩
    · match i, h with
      | 0, h =>
        cases h
        exact ⟨_, rfl, oD⟩
      | 1, h =>
        cases h
        exact ⟨_, rfl, om⟩
    · by_cases hi : i = 0
      · subst hi
        exact absurd rfl (h _)
      · exact if_neg hi
    · by_cases hi : i = 0
      · subst hi
        cases h
      · exact if_neg hi
    · match i, h with
      | 0, _ => cases ho
      | 1, _ => cases ho
    · split at hp
      · rename_i e
        split at hp'
        · rename_i e'
          exact hik (e.trans e'.symm)
        · exact nomatch hp'
      · exact nomatch hp
    · split at hp
      · rcases mem5 p hp with rfl | rfl | h
        · exact ng _ p0in p0j g
        · exact ng _ p1in n1' g
        · rcases s5 p h with ⟨x, y⟩ | x
          · exact ng p (in0 p x) y g
          · exact I'.gd 2 p x g
      · exact nomatch hp
    · rcases s.gn p g with z | z | ⟨l, _, z⟩
      · exact .inl z
      · exact .inr (.inl (k3 p z))
      · exact .inr (.inr ⟨0, List.mem_singleton.mpr rfl, in0 p (sj p (phJ_mem z).2)⟩)
    · have hp : p ∉ Φ 0 := n 0 (List.mem_singleton.mpr rfl)
      exact keepc p o h (fun e => hp (e ▸ p0in)) fun e => hp (in0 p (sj p e))
    · have hi0 : i ≠ 0 := fun e => hi (List.mem_singleton.mpr e)
      refine ⟨by rw [if_neg hi0, hout i hi0], ?_⟩
      match i, hi0 with
      | n + 1, _ => rfl
    · rw [List.mem_singleton.mp hi] at hp
      rcases mem5 p hp with rfl | rfl | h
      · exact .inl ⟨0, List.mem_singleton.mpr rfl, p0in⟩
      · exact .inl ⟨0, List.mem_singleton.mpr rfl, p1in⟩
      · rcases s5 p h with ⟨x, _⟩ | x
        · exact .inl ⟨0, List.mem_singleton.mpr rfl, in0 p x⟩
        · rcases fresh p x with y | y
          · exact .inl ⟨0, List.mem_singleton.mpr rfl, in0 p (sj p y)⟩
          · exact .inr y
theorem AtP.ext (ex : ∀ p o, H p = some o → H' p = some o) : ∀ {is : List Int} {v u : V}, AtP H v is u → AtP H' v is u
  | [], _, _, h => h
  | _ :: _, _, _, ⟨p, us, w, e, hp, hw, h⟩ => ⟨p, us, w, e, hp.imp (ex _ _) (ex _ _), hw, AtP.ext ex h⟩
theorem si5 {v0 v1 : V} {a b : D} {x y z : Option V} {Φ : Nat → List Addr} (I : SI K [.ow, .sh] G H [some v0, some v1] [some a, some b] Φ) : SI K ks5 G H [some v0, some v1, x, y, z] [some a, some b, none, none, none] Φ := by
  have hout : ∀ i, Φ (i + 2) = [] := fun i => I.non _ fun d h => by cases h
  refine ⟨rfl, rfl, fun i d h => ?_, fun i h => ?_, fun i h => ?_, fun i d h ho => ?_, I.dis, I.gd, I.gl⟩
  · match i, h with
    | 0, h => exact I.slot 0 d h
    | 1, h => exact I.slot 1 d h
    | 2, h => cases h
    | 3, h => cases h
    | 4, h => cases h
    | n + 5, h => cases h
  · match i, h with
    | 0, h => exact I.non 0 h
    | 1, h => exact I.non 1 h
    | n + 2, _ => exact hout n
  · match i, h with
    | 0, h => exact I.sh 0 h
    | 1, h => exact I.sh 1 h
    | n + 2, _ => exact hout n
  · match i, h with
    | 0, h => cases ho
    | 1, h => cases ho
    | 2, h => cases h
    | 3, h => cases h
    | 4, h => cases h
    | n + 5, h => cases h
noncomputable def drawD (φ : FEnv) (tl : List S) (pools : List D) (at_ : Int) (m : D) : RF :=
  if pools.length = 0 then .bad else
  match pools[(at_ % pools.length).toNat]? with
  | some q => (match evSs φ tl [none, some m, some q, none, none] with
      | .rt d Γ => (match get Γ 2 with
          | some q' => .ok d [.lst [.lst (pools.set (at_ % pools.length).toNat q'), .int (at_ + 1)], m]
          | none => .bad)
      | _ => .bad)
  | none => .bad
theorem drawD_ok {φ : FEnv} {tl : List S} {pools : List D} {at_ : Int} {m d : D} {outs : List D} (h : drawD φ tl pools at_ m = .ok d outs) :
    0 < pools.length ∧ ∃ q Γ q', pools[(at_ % pools.length).toNat]? = some q ∧ evSs φ tl [none, some m, some q, none, none] = .rt d Γ ∧ get Γ 2 = some q' ∧ outs = [.lst [.lst (pools.set (at_ % pools.length).toNat q'), .int (at_ + 1)], m] := by
  unfold drawD at h
  split at h
  · cases h
  · refine ⟨by omega, ?_⟩
    split at h
    · rename_i q hq
      split at h
      · rename_i d' Γ he
        split at h
        · rename_i q' hg
          cases h
          exact ⟨q, Γ, q', hq, he, hg, rfl⟩
        · cases h
      · cases h
    · cases h
theorem drawD_ne {φ : FEnv} {tl : List S} {pools : List D} {at_ : Int} {m : D} {c : Nat} {outs : List D} : drawD φ tl pools at_ m ≠ .exc c outs := by
  unfold drawD
  split
  · exact fun h => nomatch h
  · split
    · split
      · split <;> exact fun h => nomatch h
      · exact fun h => nomatch h
    · exact fun h => nomatch h
def idxD : CW.E := .bin .mod (.ix (.var 0) (.cn (.int 1))) (.bi .len [.ix (.var 0) (.cn (.int 0))])
theorem ixN_mod {n : Nat} {a : Int} (h : 0 < n) : ixN n (a % n) = some (a % n).toNat ∧ (a % n).toNat < n := by
  have h1 := Int.emod_nonneg a (show (n : Int) ≠ 0 by omega)
  have h2 := Int.emod_lt_of_pos a (show (0 : Int) < n by omega)
  refine ⟨?_, by omega⟩
  unfold ixN
  rw [if_pos h1, if_pos h2]
theorem draw_body {X : Cx} {φ : FEnv} {cl : Nat → Addr} {E : L2.St → XK} {e1 e2 : Expr} {rest : List Stmt} {tl : List S} {ea eb eff wr : List Nat} {xp xd : Str} {p1 p2 p3 p4 p5 p6 : Pos} {k : Nat} (nd : X.N.Nodup)
    (hP : SndP X φ ks5 cl E e1 0 [.cn (.int 0), idxD] ea) (hE : SndE X φ ks5 cl E e2 (.bin .add (.ix (.var 0) (.cn (.int 1))) (.cn (.int 1))) .im eb) (hT : SndSs X φ ks5 cl E .im rest tl eff wr)
    (ne : 1 ∉ eff ∧ 1 ∉ wr ∧ 2 ∉ wr) (ha0 : ea = [] := by rfl) (hb0 : eb = [] := by rfl)
    (hp : X.N[2]? = some xp := by rfl) (lp : Loc X.env.scope xp := by first | exact Or.inl rfl | exact Or.inr rfl) (fp : X.fn xp = true := by rfl) (hd : X.N[0]? = some xd := by rfl) (vd : Vis X.env.scope xd := by first | exact Or.inl rfl | exact Or.inr (Or.inl rfl)) (d1 : (xd == ("__debug__" : Str)) = false := by decide) (d2 : (xd == ("__classdict__" : Str)) = false := by decide) (c1 : noComp e1 = true := by rfl) (c2 : noComp e2 = true := by rfl) :
    ∃ t, PSs X (.Assign [.Name xp p1] e1 p2 :: .Assign [.Subscript (.Name xd p3) (.Constant (.int 1) k p4) p5] e2 p6 :: rest) t ∧
      ∀ (G : Addr → Prop) (H : Hp) (v0 v1 : V) (Φ : Nat → List Addr) (D0 : Ends) (pools : List D) (at_ : Int) (m d : D) (outs : List D), SI X.K [.ow, .sh] G H [some v0, some v1] [some (.lst [.lst pools, .int at_]), some m] Φ → drawD φ tl pools at_ m = .ok d outs →
        (∀ G' H' Φp F v, SI X.K [.ow, .sh] G' H' [some v0, some v1] (outs.map some) Φp → Step [0] G H Φ [some (.lst [.lst pools, .int at_]), some m] G' H' Φp (outs.map some) → Res X.K .im G' H' Φp F v d → D0.rt v H') → t D0 [some v0, some v1, none, none, none] H := by
  subst ha0
  subst hb0
  obtain ⟨t1, pe1, _, _, q1⟩ := hP
  obtain ⟨t2, pe2, q2⟩ := hE
  obtain ⟨t3, ps3, q3⟩ := hT
  refine ⟨_, pss_cons (ps_set nd hp lp pe1 (noComp_ok c1 _ _ _) (.inl fp)) (pss_cons (ps_asg pe2 (pg_sub (pe_var hd vd d1 d2) pe_int set_list) (by unfold swapsWithSole; exact noComp_ok c2 _ _ _) (by cases e2 <;> rfl)) ps3), fun G H v0 v1 Φ D0 pools at_ m d outs I hd0 kont => ?_⟩
  obtain ⟨hpos, q, Γ', q', hq, hev, hg, rfl⟩ := drawD_ok hd0
  obtain ⟨hx, hlt⟩ := ixN_mod (a := at_) hpos
  have hat : atI pools (at_ % pools.length) = some q := by
    unfold atI
    rw [hx]
    exact hq
  have hpth : pathEv φ 0 [.cn (.int 0), idxD] [some (.lst [.lst pools, .int at_]), some m, none, none, none] = .ok [0, at_ % pools.length] [some (.lst [.lst pools, .int at_]), some m, none, none, none] := by
    have hp' : (0 : Int) < (pools.length : Int) := by omega
    have e1 : evE φ idxD [some (.lst [.lst pools, .int at_]), some m, none, none, none] = .ok (.int (at_ % pools.length)) [some (.lst [.lst pools, .int at_]), some m, none, none, none] := by
      simp only [idxD, evE, evEs, get, List.getElem?_cons_zero, Option.join, Option.bind_some, id, ofo_some, bind_ok, atD, atI, ixN, List.length_cons, List.length_nil, Bi.sem, Bop.sem]
      simp [hpos]
    simp only [pathEv, evEs, e1, bind_ok, intsOf, Option.map_some, Option.bind_some, evE]
    have e2 : get [some (D.lst [.lst pools, .int at_]), some m, none, none, none] 0 = some (.lst [.lst pools, .int at_]) := rfl
    have e3 : pathD (.lst [.lst pools, .int at_]) [0, at_ % pools.length] = some q := by
      show ((atI pools (at_ % pools.length)).bind fun d => pathD d []) = some q
      rw [hat]
      rfl
    rw [e2, Option.bind_some, e3]
    rfl
  refine q1 G H _ _ Φ _ (si5 I) ?_
  rw [hpth]
  intro G1 H1 Φ1 u I1 s1 ⟨v0', f1, f2⟩
  cases f1
  have ex1 : ∀ p o, H p = some o → H1 p = some o := fun p o h => s1.kp p o h fun _ h => nomatch h
  refine q2 G H1 [some v0, some v1, some u, none, none] _ Φ _ (si5 (I.grow ex1)) ?_
  have hev2 : evE φ (.bin .add (.ix (.var 0) (.cn (.int 1))) (.cn (.int 1))) [some (.lst [.lst pools, .int at_]), some m, none, none, none] = .ok (.int (at_ + 1)) [some (.lst [.lst pools, .int at_]), some m, none, none, none] := rfl
  rw [hev2]
  intro G2 H2 Φ2 v I2 s2 ⟨F, r, _⟩
  have ov := r.own
  cases ov
  have ex2 : ∀ p o, H1 p = some o → H2 p = some o := fun p o h => s2.kp p o h fun _ h => nomatch h
  have ex : ∀ p o, H p = some o → H2 p = some o := fun p o h => ex2 p o (ex1 p o h)
  obtain ⟨pp0, pp1, us, u', Fj, rfl, h0, h1, hl, hu, J, fin⟩ := borrow (I.grow ex) hq
  have ha : AtP H2 (.ref pp0) [0, at_ % pools.length] u' := by
    refine ⟨pp0, _, .ref pp1, rfl, .inl h0, rfl, pp1, us, u', rfl, .inl h1, ?_, rfl⟩
    unfold atI
    rw [hl, hx]
    exact hu
  have eu := (f2.ext ex2).uniq ha
  subst eu
  refine ⟨.ref pp0, rfl, pp0, _, 1, 1, rfl, rfl, h0, rfl, ?_⟩
  refine q3 G (upd H2 pp0 (.lst [.ref pp1, .int (at_ + 1)])) _ _ (phJ Fj) D0 J ?_
  rw [hev]
  intro G' H' σ' Φ' F v I' s' ag r o
  obtain ⟨Φp, A, B⟩ := fin (H0 := upd H2 pp0 (.lst [.ref pp1, .int (at_ + 1)])) (fun p o h hn => (upd_ne hn).trans h) upd_same (fun p h => by
    by_cases e : p = pp0
    · subst e
      rw [upd_same] at h
      cases h
    · rw [upd_ne e] at h
      exact h) I' s' ag ne hg
  have stepH : Step [] G H Φ [some (.lst [.lst pools, .int at_]), some m] G H2 Φ [some (.lst [.lst pools, .int at_]), some m] := (Step.grow ex).wider fun _ h => h
  refine kont G' H' Φp [] v A ((stepH.trans B).wider fun i h => h) ⟨rfl, ?_⟩
  exact r.2
noncomputable def gDraw (φ : FEnv) (tl : List S) : List D → RF
  | [.lst [.lst pools, .int at_], m] => drawD φ tl pools at_ m
  | _ => .bad
theorem gDraw_cases {φ : FEnv} {tl : List S} {ds : List D} (h : gDraw φ tl ds ≠ .bad) : ∃ pools at_ m, ds = [.lst [.lst pools, .int at_], m] := by
  unfold gDraw at h
  split at h
  · exact ⟨_, _, _, rfl⟩
  · exact absurd rfl h
theorem draw_end {φ : FEnv} {cl : Nat → Addr} {tl : List S} {t : TS} {vs : List V} {Q : VK} {E : XK} {N : List Str} {nx : L2.St → Hp → Prop} (hN : N.length = 5)
    (q : ∀ (G : Addr → Prop) (H : Hp) (v0 v1 : V) (Φ : Nat → List Addr) (D0 : Ends) (pools : List D) (at_ : Int) (m d : D) (outs : List D), SI K [.ow, .sh] G H [some v0, some v1] [some (.lst [.lst pools, .int at_]), some m] Φ → drawD φ tl pools at_ m = .ok d outs →
        (∀ G' H' Φp F v, SI K [.ow, .sh] G' H' [some v0, some v1] (outs.map some) Φp → Step [0] G H Φ [some (.lst [.lst pools, .int at_]), some m] G' H' Φp (outs.map some) → Res K .im G' H' Φp F v d → D0.rt v H') → t D0 [some v0, some v1, none, none, none] H)
    (h : spOf K cl ⟨[.ow, .sh], .im⟩ (gDraw φ tl) vs H Q E) : t { nx := nx, rt := Q } (L2.start N vs) H := by
  obtain ⟨G, ds, Φ, hl, I, h⟩ := h
  have nb : gDraw φ tl ds ≠ .bad := fun e => by
    rw [e] at h
    exact h
  obtain ⟨pools, at_, m, rfl⟩ := gDraw_cases nb
  match vs, hl with
  | [v0, v1], _ =>
    have es : L2.start N [v0, v1] = [some v0, some v1, none, none, none] := by
      unfold L2.start
      rw [hN]
      rfl
    rw [es]
    have e : gDraw φ tl [.lst [.lst pools, .int at_], m] = drawD φ tl pools at_ m := rfl
    rw [e] at h
    cases hd : drawD φ tl pools at_ m with
    | bad => rw [hd] at h; exact h.elim
    | exc c outs => exact absurd hd drawD_ne
    | ok d outs =>
      rw [hd] at h
      obtain ⟨_, q', Γ', q'', _, _, _, ho⟩ := drawD_ok hd
      refine q G H v0 v1 Φ _ pools at_ m d outs I hd fun G' H' Φp F v A B r => ?_
      exact h (by rw [ho]; rfl) G' H' Φp F v A B r fun h => nomatch h
end
section
variable {K : PySem.W.Frag} {H : Hp}
/-- the law's own def, called -/
theorem law_sp {cl : Nat → Addr} {g : List D → RF} {a : Addr} {ns : List Int} (hl : ns.length ≤ 63) (hS : SqL K H a (ns.map V.int)) (law : ∃ outs, g [.scr ns] = .ok (.bl true) outs) : spOf K cl ⟨[.sh], .im⟩ g [.ref a] H (fun v _ => v = .bl true) fun _ _ _ => False := by
  obtain ⟨outs, e⟩ := law
  have z : ns.length ≤ sizeLine := Nat.le_trans hl (by decide)
  refine ⟨fun p => p = a ∧ Rd H a (.lst (ns.map V.int)), [.scr ns], fun _ => [], rfl, ⟨rfl, rfl, fun i d h => ?_, fun i h => rfl, fun i h => rfl, fun i d h ho => ?_, (fun i j _ p hp => nomatch hp), (fun i p hp => nomatch hp), fun p g q => ?_⟩, ?_⟩
  · match i, h with
    | 0, h =>
      cases h
      refine ⟨_, rfl, ?_⟩
      rcases hS with h | h
      · exact .scrR h ⟨rfl, h⟩ z
      · exact .scrK (fun H' => .inr h) z
    | n + 1, h => cases h
  · match i, h with
    | 0, h => cases ho
    | n + 1, h => cases h
  · obtain ⟨rfl, h⟩ := g
    rcases h with h | ⟨o, h⟩ <;> rw [q] at h <;> cases h
  · rw [e]
    intro _ G' H' Φ' F v _ _ r _
    have o := r.own
    cases o
    rfl
theorem noX {P : Program} {w : World} {s : Shared} {e : Value} {s' : Shared} (z : L2.CX P w [] H s (fun _ _ _ => False) e s') : False := by
  obtain ⟨_, _, _, _, _, _, _, _, _, _, _, _, h⟩ := z
  exact h
end
end CW
/-! The law's own def, called by the claim's caller: no guard is under way there. -/
namespace CW
open PySem PySem.Spec PyProof.Rows L2
section
variable {P : Program} {w : World} {K : PySem.W.Frag} {s : Shared} {a : Addr} {vs : List Value} {ns : List Int}
/-- the script's object -/
abbrev scO (vs : List Value) : Obj := { cls := .type "list", data := .seq vs.toArray }
/-- nothing is tracked but the script, and that only where it is no object of the written part -/
structure Sole (P : Program) (w : World) (K : PySem.W.Frag) (h : Heap) (a : Addr) (vs : List Value) (ns : List Int) (H : Hp) : Prop where
  reads : SqL K H a (ns.map V.int)
  held : HOk P w H h
  only : ∀ c u, H c = some u → c = a ∧ u = .frz (scO vs) (.lst (ns.map V.int)) ∧ K.lookup a = none
theorem sole (kin : K.In s.heap) (obj : s.heap.get? a = some (scO vs)) (isI : IntsAre vs ns) (len : ns.length ≤ sizeLine) : ∃ H, Sole P w K s.heap a vs ns H := by
  have vals := vals_ints isI
  have size : vs.length = ns.length := isI.length
  by_cases own : ∃ o, K.lookup a = some o
  · obtain ⟨o, look⟩ := own
    have same := kin a o look
    rw [obj] at same
    cases same
    exact ⟨fun _ => none, .inr ⟨_, vs.toArray, _, look, rfl, rfl, rfl, by simpa [size] using len, by simpa using vals⟩, (fun c u h => nomatch h), (fun c u h => nomatch h)⟩
  · have look : K.lookup a = none := by
      cases h : K.lookup a with
      | none => rfl
      | some o => exact absurd ⟨o, h⟩ own
    have here : ∀ c u, upd (fun _ => none) a (.frz (scO vs) (.lst (ns.map V.int))) c = some u → c = a ∧ u = .frz (scO vs) (.lst (ns.map V.int)) := fun c u h => by
      by_cases e : c = a
      · rw [e, upd_same] at h
        exact ⟨e, (Option.some.inj h).symm⟩
      · rw [upd_ne e] at h
        cases h
    refine ⟨upd (fun _ => none) a (.frz (scO vs) (.lst (ns.map V.int))), .inl (.inr ⟨_, upd_same⟩), fun c u h => ?_, fun c u h => ⟨(here c u h).1, (here c u h).2, look⟩⟩
    obtain ⟨rfl, rfl⟩ := here c u h
    exact ⟨obj, by rw [List.length_map]; exact len, vs, _, vals, obj⟩
theorem Sole.free {h : Heap} {H : Hp} (S : Sole P w K h a vs ns H) {c : Addr} (n : c ≠ a) : H c = none := by
  cases e : H c with
  | none => rfl
  | some u => exact absurd (S.only c u e).1 n
theorem Sole.space {H : Hp} (S : Sole P w K s.heap a vs ns H) (obj : s.heap.get? a = some (scO vs)) {c : Addr} {m : Str → Option Value} (h : s.heap.Ns c m) : (hidT s.heap H).Ns c m := by
  obtain ⟨o, es, ep, e, d, rest⟩ := h
  refine ⟨o, es, ep, hidT_get e (S.free fun q => ?_), d, rest⟩
  rw [q, obj] at e
  cases e
  exact nomatch (show Data.seq vs.toArray _ = Data.dict es ep from d)
theorem Sole.kin {H : Hp} (S : Sole P w K s.heap a vs ns H) (kin : K.In s.heap) : K.In (hidT s.heap H) := fun c o e => by
  refine hidT_get (kin c o e) ?_
  cases q : H c with
  | none => rfl
  | some u =>
    obtain ⟨e1, _, e2⟩ := S.only c u q
    rw [← e1, e] at e2
    cases e2
end
/-- THE END: a law whose def keeps its promise where no guard is under way -/
theorem walkE {l : PySem.W.OpenLaw} {q : Program} {loose : List Str} {XP : (Str → Option Value) → Heap → Prop} {YP : World → Heap → Prop} {d : DefRec} {K : Params → PySem.W.Frag} {k : Nat} {g : List D → RF}
    (most : l.most = some 63) (dflt : d.params.defaults = []) (room : Room k callerA) (inK : ∀ (w : World) (h : Heap), YP w h → (K w.params).In h)
    (F : ∀ (w : World) (mg : Str → Option Value) (fa : Addr) (h : Heap), (K w.params).In h → h.Ns mainGlobals mg → mg d.name = some (.ref fa) →
      ∃ (cl : Nat → Addr) (fd : FuncData), (∀ (s : Shared) (u : Value), BindsTo s fd ⟨[u], []⟩ [("script", u)]) ∧ ∀ base : Heap, (K w.params).In base → base.Ns mainGlobals mg → FnG l.prog w (K w.params) mg base k fa fd ["script"] (spOf (K w.params) cl ⟨[.sh], .im⟩ g))
    (law : ∀ ns : List Int, ns.length ≤ 63 → ∃ outs, g [.scr ns] = .ok (.bl true) outs) : PySem.W.WalkO q loose XP YP l.row.toRowW d [] (fun f vs => PySem.call f vs) := by
  refine Att.attach_call most dflt fun w s0 s mg mb fa _ _ _ _ a vs ns gr yy _ _ _ named obj isI few gens => ?_
  have kin := inK w _ yy
  obtain ⟨cl, fd, binds, F1⟩ := F w mg fa _ kin gr.T.g named
  obtain ⟨H, S⟩ := sole (P := l.prog) (w := w) kin obj isI (Nat.le_trans few (by decide))
  have kin2 := S.kin kin
  have glob := S.space obj gr.T.g
  obtain ⟨mc, c1, c2⟩ := gr.T.nolimit
  have ev : Env0 l.prog w (K w.params) mg (hidT s.heap H) callerA [] s H := ⟨rfl, ⟨kin2, glob, ⟨mb, S.space obj gr.T.b, gr.T.builtins⟩, ⟨mc, S.space obj c1, c2⟩⟩, fun _ _ e => of_hidT e, Nat.le_of_eq (hidT_size _ _), trivial, (fun _ h => nomatch h), S.held, .of_eq gens⟩
  refine codeAny_mono ((F1 _ kin2 glob).go callerA [] s H ⟨[.ref a], []⟩ [.ref a] [.ref a] _ _ rfl room ev (binds s (.ref a)) (.cons rfl .nil) (law_sp few S.reads (law ns few))) fun way s2 post => ?_
  match way, post with
  | .error z, post => exact (noX post).elim
  | .ok (.ret u), post =>
    obtain ⟨v, H2, os2, bare, kept, held2, rv, isTrue⟩ := post
    have isTrue : v = .bl true := isTrue
    subst isTrue
    obtain rfl : u = Value.bool true := rv
    refine ⟨rfl, OldK.of_keep fun c o e => ?_, os2, bare⟩
    cases q1 : H c with
    | none => exact kept.keep c o e q1 (fun h => nomatch h) (fun h => nomatch h)
    | some u =>
      obtain ⟨rfl, rfl, _⟩ := S.only c u q1
      have e2 := (held2 c _ (kept.frzs c _ _ q1)).1
      have e1 := (S.held c _ q1).1
      rw [e] at e1
      cases e1
      exact e2
theorem walkG {l : PySem.W.OpenLaw} {q : Program} {loose : List Str} {XP : (Str → Option Value) → Heap → Prop} {YP : World → Heap → Prop} {d : DefRec} {K : Params → PySem.W.Frag} {k : Nat} {g : List D → RF}
    (most : l.most = some 63) (dflt : d.params.defaults = []) (room : Room k callerA) (inK : ∀ (w : World) (h : Heap), YP w h → (K w.params).In h)
    (F : ∀ (w : World) (mg : Str → Option Value) (fa : Addr) (h : Heap), (K w.params).In h → h.Ns mainGlobals mg → mg d.name = some (.ref fa) →
      ∃ fd : FuncData, (∀ (s : Shared) (u : Value), BindsTo s fd ⟨[u], []⟩ [("script", u)]) ∧ ∀ base : Heap, (K w.params).In base → base.Ns mainGlobals mg → FnG l.prog w (K w.params) mg base k fa fd ["script"] (spOf (K w.params) (fun _ => 0) ⟨[.sh], .im⟩ g))
    (law : ∀ ns : List Int, ns.length ≤ 63 → ∃ outs, g [.scr ns] = .ok (.bl true) outs) : PySem.W.WalkO q loose XP YP l.row.toRowW d [] (fun f vs => PySem.call f vs) :=
  walkE most dflt room inK (fun w mg fa h X G named => ⟨_, F w mg fa h X G named⟩) law
end CW
/-! A tuple that begins with names that are given up, and read once more behind them. -/
namespace CW
open PySem L2
section
variable {X : Cx} {φ : FEnv} {ks : List Kd} {cl : Nat → Addr} {E : L2.St → XK} {eff : List Nat} {pos : Pos} {es : List Expr} {irs : List CW.E}
theorem mvI_len : ∀ {is : List Nat} {Γ Γ1 : Env} {ds : List D}, mvI is Γ = .ok ds Γ1 → ds.length = is.length
  | [], Γ, Γ1, ds, h => by
    cases h
    rfl
  | i :: is, Γ, Γ1, ds, h => by
    rw [mvI] at h
    cases e : get Γ i with
    | none =>
      rw [e] at h
      cases h
    | some d =>
      rw [e] at h
      simp only [ofo_some, bind_ok] at h
      cases e2 : mvI is (Γ.set i none) with
      | ok ds' Γ3 =>
        rw [e2] at h
        simp only [bind_ok] at h
        cases h
        exact congrArg (· + 1) (mvI_len e2)
      | _ =>
        rw [e2] at h
        cases h
theorem mvI_exc : ∀ {is : List Nat} {Γ Γ1 : Env} {c : Nat}, mvI is Γ ≠ .exc c Γ1
  | [], Γ, Γ1, c, h => by cases h
  | i :: is, Γ, Γ1, c, h => by
    rw [mvI] at h
    cases e : get Γ i with
    | none =>
      rw [e] at h
      cases h
    | some d =>
      rw [e] at h
      simp only [ofo_some, bind_ok] at h
      cases e2 : mvI is (Γ.set i none) with
      | ok ds' Γ3 =>
        rw [e2] at h
        cases h
      | exc c' Γ3 => exact mvI_exc e2
      | bad =>
        rw [e2] at h
        cases h
theorem get_set_ne {Γ : Env} {i j : Nat} {o : Option D} (h : i ≠ j) : get (Γ.set i o) j = get Γ j := by
  unfold get
  rw [List.getElem?_set_ne h]
/-- a name that is not among them may be given up before or behind -/
theorem mvI_set : ∀ {is : List Nat} {i : Nat} {Γ Γ2 : Env} {ds : List D}, i ∉ is → mvI is (Γ.set i none) = .ok ds Γ2 → ∃ Γ3, mvI is Γ = .ok ds Γ3 ∧ get Γ3 i = get Γ i ∧ Γ2 = Γ3.set i none
  | [], i, Γ, Γ2, ds, hi, h => by
    cases h
    exact ⟨Γ, rfl, rfl, rfl⟩
  | j :: is, i, Γ, Γ2, ds, hi, h => by
    have hij : i ≠ j := fun e => hi (e ▸ List.mem_cons_self)
    rw [mvI, get_set_ne hij] at h
    cases e : get Γ j with
    | none =>
      rw [e] at h
      cases h
    | some d =>
      rw [e] at h
      simp only [ofo_some, bind_ok] at h
      rw [List.set_comm _ _ hij] at h
      cases e2 : mvI is ((Γ.set j none).set i none) with
      | ok ds' Γ4 =>
        rw [e2] at h
        simp only [bind_ok] at h
        cases h
        obtain ⟨Γ5, q1, q2, q3⟩ := mvI_set (fun x => hi (List.mem_cons_of_mem _ x)) e2
        refine ⟨Γ5, ?_, by rw [q2, get_set_ne hij.symm], q3⟩
        rw [mvI, e]
        simp only [ofo_some, bind_ok]
        rw [q1]
        rfl
      | exc c Γ4 => exact absurd e2 mvI_exc
      | bad =>
        rw [e2] at h
        cases h
/-- a display whose first items are names given up -/
def SndM (X : Cx) (φ : FEnv) (ks : List Kd) (cl : Nat → Addr) (E : L2.St → XK) (es : List Expr) (is : List Nat) (irs : List CW.E) (eff : List Nat) : Prop :=
  ∃ t, PA X es t ∧ ∀ G H σ Γ Φ (Q : List V → Hp → Prop), SI X.K ks G H σ Γ Φ → hasI is Γ = .ok () Γ → DenR X ks cl E eff (fun G' H' Φ' ds vs => ∃ F, ResD X.K .ow G' H' Φ' F vs ds ∧ Org .ow eff H Φ F) ((evEs φ irs Γ).bind fun ds Γ => (mvI is Γ).bind fun ds' Γ => .ok (ds' ++ ds) Γ) G H σ Γ Φ Q → t σ H Q
theorem sm_nil (h : SndD X φ ks cl E es irs .ow eff) : SndM X φ ks cl E es [] irs eff := by
  obtain ⟨t, p, q⟩ := h
  refine ⟨t, p, fun G H σ Γ Φ Q I _ h => q G H σ Γ Φ Q I ?_⟩
  cases e : evEs φ irs Γ with
  | ok ds Γ1 =>
    rw [e] at h
    exact h
  | exc c Γ1 =>
    rw [e] at h
    exact h
  | bad =>
    rw [e] at h
    exact h.elim
theorem sm_cons {x : Str} {i : Nat} {is : List Nat} (hk : kd ks i = .ow) (hi : i ∉ is) (hN : X.N[i]? = some x) (hv : Vis X.env.scope x) (h1 : (x == ("__debug__" : Str)) = false) (h2 : (x == ("__classdict__" : Str)) = false) (h : SndM X φ ks cl E es is irs eff) :
    SndM X φ ks cl E (.Name x pos :: es) (i :: is) irs (i :: eff) := by
  obtain ⟨t, p, q⟩ := h
  refine ⟨_, pa_cons (pe_var hN hv h1 h2) p (noStar_ok rfl _), fun G H σ Γ Φ Q I hh h => ?_⟩
  have hg : ∃ d, get Γ i = some d ∧ hasI is Γ = .ok () Γ := by
    rw [hasI] at hh
    cases e : get Γ i with
    | none =>
      rw [e] at hh
      cases hh
    | some d =>
      rw [e] at hh
      exact ⟨d, rfl, hh⟩
  obtain ⟨d0, g0, hh'⟩ := hg
  obtain ⟨v, e1, _⟩ := I.slot i d0 (gets g0)
  refine ⟨v, e1, q G H σ Γ Φ _ I hh' ?_⟩
  cases e : evEs φ irs Γ with
  | exc c Γ1 =>
    rw [e] at h
    exact fun G' H' Φ' I' s' => h G' H' Φ' I' (s'.wider fun _ h => List.mem_cons_of_mem _ h)
  | bad =>
    rw [e] at h
    exact h.elim
  | ok ds Γ1 =>
    rw [e] at h
    simp only [bind_ok] at h ⊢
    rw [mvI] at h
    cases eg : get Γ1 i with
    | none =>
      rw [eg] at h
      exact h.elim
    | some d =>
      rw [eg] at h
      simp only [ofo_some, bind_ok] at h
      cases em : mvI is (Γ1.set i none) with
      | exc c Γ2 => exact absurd em mvI_exc
      | bad =>
        rw [em] at h
        exact h.elim
      | ok ds' Γ2 =>
        rw [em] at h
        simp only [bind_ok] at h
        obtain ⟨Γ3, m1, m2, rfl⟩ := mvI_set hi em
        rw [m1]
        simp only [bind_ok]
        intro G' H' Φ' vs I' s' ⟨F, r, o⟩
        have g3 : get Γ3 i = some d := m2.trans eg
        obtain ⟨v', e1', o1⟩ := I'.slot i d (gets g3)
        have ev : v = v' := by
          rw [e1] at e1'
          exact Option.some.inj (Option.some.inj e1')
        subst ev
        rw [hk] at o1
        have sd : Step [i] G' H' Φ' Γ3 G' H' (pu Φ' i []) (Γ3.set i none) := Step.drop i
        refine h G' H' (pu Φ' i []) (v :: vs) (I'.drop i) ((s'.trans sd).wider fun j hj => ?_) ⟨Φ' i ++ F, ⟨.cons o1 r.1 fun p hp hq => (r.2 p hq).2.1 i hp, fun p hp => ?_⟩, fun _ p hp => ?_⟩
        · rcases List.mem_append.mp hj with hj | hj
          · exact List.mem_cons_of_mem _ hj
          · rw [List.mem_singleton.mp hj]
            exact List.mem_cons_self
        · rcases List.mem_append.mp hp with hp | hp
          · exact I'.dropTmp i p hp
          · exact (r.2.step sd) p hp
        · rcases List.mem_append.mp hp with hp | hp
          · by_cases he : i ∈ eff
            · rcases s'.fn i he p hp with ⟨j, hj, q⟩ | q
              · exact .inr ⟨j, List.mem_cons_of_mem _ hj, q⟩
              · exact .inl q
            · rw [(s'.fx i he).1] at hp
              exact .inr ⟨i, List.mem_cons_self, hp⟩
          · rcases o rfl p hp with q | ⟨j, hj, q⟩
            · exact .inl q
            · exact .inr ⟨j, List.mem_cons_of_mem _ hj, q⟩
theorem hasI_env : ∀ {is : List Nat} {Γ Γ1 : Env}, hasI is Γ = .ok () Γ1 → Γ1 = Γ
  | [], Γ, Γ1, h => by
    cases h
    rfl
  | i :: is, Γ, Γ1, h => by
    rw [hasI] at h
    split at h
    · exact hasI_env h
    · cases h
theorem hasI_exc : ∀ {is : List Nat} {Γ Γ1 : Env} {c : Nat}, hasI is Γ ≠ .exc c Γ1
  | [], Γ, Γ1, c, h => by cases h
  | i :: is, Γ, Γ1, c, h => by
    rw [hasI] at h
    split at h
    · exact hasI_exc h
    · cases h
theorem snd_tupM {k : Nat} {is : List Nat} (hl : is.length + irs.length ≤ 1000) (h : SndM X φ ks cl E es is irs eff) : SndE X φ ks cl E (.Tuple es k pos) (.tupM is irs) .ow eff := by
  obtain ⟨t, p, q⟩ := h
  refine ⟨_, pe_tup p, fun G H σ Γ Φ Q I h => ?_⟩
  simp only [evE] at h
  cases eh : hasI is Γ with
  | exc c Γ1 => exact absurd eh hasI_exc
  | bad =>
    rw [eh] at h
    exact h.elim
  | ok u Γ1 =>
  have := hasI_env eh
  subst this
  rw [eh] at h
  simp only [bind_ok] at h
  refine q G H σ Γ1 Φ _ I eh ?_
  cases hev : evEs φ irs Γ1 with
  | bad =>
    rw [hev] at h
    exact h.elim
  | exc c Γ2 =>
    rw [hev] at h
    exact h
  | ok ds Γ2 =>
    rw [hev] at h
    simp only [bind_ok] at h ⊢
    cases em : mvI is Γ2 with
    | exc c Γ3 => exact absurd em mvI_exc
    | bad =>
      rw [em] at h
      exact h.elim
    | ok ds' Γ3 =>
    rw [em] at h
    simp only [bind_ok] at h ⊢
    intro G1 H1 Φ1 vs I1 s1 r1
    obtain ⟨F, r1, o1⟩ := r1
    have hlen := evEs_len hev
    have hlen2 := mvI_len em
    have hvs := r1.len
    rw [List.length_append] at hvs
    have hz' : (1000 : Nat) ≤ sizeLine := by decide
    refine ⟨by omega, fun p hp => ?_⟩
    have ex := upd_ex (o := HO.tup vs) hp
    have gr : Step eff G1 H1 Φ1 Γ3 G1 (upd H1 p (.tup vs)) Φ1 Γ3 := (Step.grow ex).wider fun _ h => nomatch h
    refine h G1 _ Φ1 _ (I1.grow ex) ((s1.trans gr).wider fun i hi => (List.mem_append.mp hi).elim id id) ⟨F, ?_, o1⟩
    have r2 := r1.step I1 gr
    have hz : (ds' ++ ds).length ≤ sizeLine := by
      rw [List.length_append]
      omega
    exact ⟨.tup upd_same r2.1 hz, r2.2⟩
theorem y_mm {x : Str} (i : Nat) {is : List Nat} (h : SndM X φ ks cl E es is irs eff) (hk : kd ks i = .ow := by rfl) (hi : i ∉ is := by decide) (hN : X.N[i]? = some x := by rfl) (hv : Vis X.env.scope x := by first | exact Or.inl rfl | exact Or.inr (Or.inl rfl) | exact Or.inr (Or.inr rfl)) (h1 : (x == ("__debug__" : Str)) = false := by decide) (h2 : (x == ("__classdict__" : Str)) = false := by decide) :
    SndM X φ ks cl E (.Name x pos :: es) (i :: is) irs (i :: eff) := sm_cons hk hi hN hv h1 h2 h
theorem y_tupM {k : Nat} {is : List Nat} (h : SndM X φ ks cl E es is irs eff) (hl : is.length + irs.length ≤ 1000 := by decide) : SndE X φ ks cl E (.Tuple es k pos) (.tupM is irs) .ow eff := snd_tupM hl h
end
/-! A name that is one's own for some rows, and frozen behind them. -/
section
variable {X : Cx} {φ : FEnv} {ks ks' : List Kd} {cl : Nat → Addr} {E : L2.St → XK} {rm : Md} {G G1 : Addr → Prop} {H H1 : Hp} {σ σ1 : L2.St} {Γ Γ1 : Env} {Φ Φ1 : Nat → List Addr} {x : Nat} {K : PySem.W.Frag} {e1 e2 ea eb eff w w1 w2 w' : List Nat} {r : SR} {D0 : Ends} {st : Stmt} {sts : List Stmt} {s' : S} {ss : List S}
theorem DenS.pre (h : DenS X ks cl E rm eff w r G H σ Γ Φ D0) (s1 : Step e1 G H Φ Γ G1 H1 Φ1 Γ1) (a1 : Agr w1 σ σ1) (h1 : ∀ i ∈ e1, i ∈ eff) (h2 : ∀ i ∈ e2, i ∈ eff) (h3 : ∀ i ∈ w1, i ∈ w) (h4 : ∀ i ∈ w2, i ∈ w) : DenS X ks cl E rm e2 w2 r G1 H1 σ1 Γ1 Φ1 D0 := by
  have tr : ∀ {G' H' Φ' Γ'}, Step e2 G1 H1 Φ1 Γ1 G' H' Φ' Γ' → Step eff G H Φ Γ G' H' Φ' Γ' := fun s2 => (s1.trans s2).wider fun i hi => (List.mem_append.mp hi).elim (h1 i) (h2 i)
  have ta : ∀ {σ'}, Agr w2 σ1 σ' → Agr w σ σ' := fun ag => (a1.trans ag).wider fun i hi => (List.mem_append.mp hi).elim (h3 i) (h4 i)
  have og : ∀ {F}, Org rm e2 H1 Φ1 F → Org rm eff H Φ F := fun o => (Org.back s1 o).mono fun i hi => (List.mem_append.mp hi).elim (h1 i) (h2 i)
  revert h
  cases r with
  | nx Γ2 => exact fun h' G' H' σ' Φ' I' s' ag => h' G' H' σ' Φ' I' (tr s') (ta ag)
  | rt d Γ2 => exact fun h' G' H' σ' Φ' F v I' s' ag r o => h' G' H' σ' Φ' F v I' (tr s') (ta ag) r (og o)
  | bk Γ2 => exact fun h' G' H' σ' Φ' I' s' ag => h' G' H' σ' Φ' I' (tr s') (ta ag)
  | exc c Γ2 => exact fun h' G' H' σ' Φ' I' s' ag => h' G' H' σ' Φ' I' (tr s') (ta ag)
  | bad => exact fun h' => h'
/-- the kinds part at x only -/
structure Turned (ks ks' : List Kd) (x : Nat) : Prop where
  sh : kd ks x = .sh
  os : (kd ks' x).fr = false
  ne : ∀ i, i ≠ x → kd ks' i = kd ks i
  len : ks'.length = ks.length
theorem turned_set {q : Kd} (h : kd ks x = .sh) (hx : x < ks.length) (hq : q.fr = false := by rfl) : Turned ks (ks.set x q) x := by
  refine ⟨h, ?_, fun i hi => ?_, List.length_set⟩
  · unfold kd
    rw [List.getD_eq_getElem?_getD, List.getElem?_set_self hx]
    exact hq
  · unfold kd
    rw [List.getD_eq_getElem?_getD, List.getD_eq_getElem?_getD, List.getElem?_set_ne (Ne.symm hi)]
theorem SI.opened (tn : Turned ks ks' x) (I : SI K ks G H σ (Γ.set x none) Φ) : SI K ks' G H σ (Γ.set x none) Φ := by
  have nx : ∀ d : D, (Γ.set x none)[x]? ≠ some (some d) := fun d e => by
    rw [List.getElem?_set] at e
    split at e
    · split at e <;> cases e
    · omega
  refine ⟨I.len, tn.len.trans I.kl, fun i d h => ?_, I.non, fun i h => ?_, fun i d h hk => ?_, I.dis, I.gd, I.gl⟩
  · by_cases hi : i = x
    · subst hi
      exact absurd h (nx d)
    · rw [tn.ne i hi]
      exact I.slot i d h
  · by_cases hi : i = x
    · subst hi
      rw [tn.os] at h
      cases h
    · rw [tn.ne i hi] at h
      exact I.sh i h
  · by_cases hi : i = x
    · subst hi
      exact absurd h (nx d)
    · rw [tn.ne i hi] at hk
      exact I.os i d h hk
theorem SI.closed (tn : Turned ks ks' x) (I : SI K ks' G H σ Γ Φ) : SI K ks (fun p => G p ∨ p ∈ Φ x) H σ Γ (pu Φ x []) := by
  refine ⟨I.len, tn.len.symm.trans I.kl, fun i d h => ?_, fun i h => ?_, fun i h => ?_, fun i d h hk => ?_, fun i j hij p hp hq => ?_, fun i p hp hg => ?_, fun p hp => ?_⟩
  · obtain ⟨v, e, o⟩ := I.slot i d h
    refine ⟨v, e, ?_⟩
    by_cases hi : i = x
    · subst hi
      rw [tn.sh, pu_same]
      exact Own.freeze (fun p h => .inl (Kd.g_le p h)) o fun p hp => .inr hp
    · rw [tn.ne i hi] at o
      rw [pu_ne hi]
      exact o.mono (Kd.g_mono fun _ h => .inl h)
  · by_cases hi : i = x
    · subst hi
      exact pu_same
    · rw [pu_ne hi]
      exact I.non i h
  · by_cases hi : i = x
    · subst hi
      exact pu_same
    · rw [pu_ne hi]
      exact I.sh i (by rw [tn.ne i hi]; exact h)
  · by_cases hi : i = x
    · subst hi
      rw [tn.sh] at hk
      cases hk
    · rw [pu_ne hi]
      exact I.os i d h (by rw [tn.ne i hi]; exact hk)
  · rcases pu_mem hp with ⟨_, q⟩ | ⟨_, q⟩
    · exact nomatch q
    · rcases pu_mem hq with ⟨_, q'⟩ | ⟨_, q'⟩
      · exact nomatch q'
      · exact I.dis i j hij p q q'
  · rcases pu_mem hp with ⟨_, q⟩ | ⟨hi, q⟩
    · exact nomatch q
    · rcases hg with g | g
      · exact I.gd i p q g
      · exact I.dis i x hi p q g
  · rcases hp with g | g
    · exact I.gl p g
    · obtain ⟨xs, q⟩ := I.mut x p g
      rw [q]
      exact fun h => nomatch h
theorem Step.closed : Step [x] G H Φ Γ (fun p => G p ∨ p ∈ Φ x) H (pu Φ x []) Γ :=
  ⟨fun _ h => .inl h, fun p h => h.elim .inl fun q => .inr (.inr ⟨x, List.mem_singleton.mpr rfl, q⟩), fun _ _ h _ => h, fun i hi => by
    have : i ≠ x := fun e => hi (List.mem_singleton.mpr e)
    rw [pu_ne this]
    exact ⟨rfl, rfl⟩, fun i hi p hp => by
    rw [List.mem_singleton.mp hi, pu_same] at hp
    exact (List.not_mem_nil hp).elim, fun _ h => h⟩
def SndX (X : Cx) (φ : FEnv) (ks' ks : List Kd) (cl : Nat → Addr) (E : L2.St → XK) (rm : Md) (st : List Stmt) (ir : List S) (eff w : List Nat) : Prop :=
  ∃ t, PSs X st t ∧ ∀ G H σ Γ Φ (D0 : Ends), SI X.K ks' G H σ Γ Φ → DenS X ks cl E rm eff w (evSs φ ir Γ) G H σ Γ Φ D0 → t D0 σ H
theorem sx_end (tn : Turned ks ks' x) (h : SndSs X φ ks cl E rm sts ss eb w) : SndX X φ ks' ks cl E rm sts ss (x :: eb) w := by
  obtain ⟨t, p, q⟩ := h
  exact ⟨t, p, fun G H σ Γ Φ D0 I hD => q _ H σ Γ _ D0 (I.closed tn) (hD.pre (e1 := [x]) (w1 := w) Step.closed Agr.refl (fun i hi => by rw [List.mem_singleton.mp hi]; exact List.mem_cons_self) (fun i hi => List.mem_cons_of_mem _ hi) (fun _ h => h) fun _ h => h)⟩
theorem sx_cons (tn : Turned ks ks' x) (hx : x ∈ eb) (off : rm.off [x] = true) (h1 : SndS X φ ks' cl E rm st s' ea w) (h2 : SndX X φ ks' ks cl E rm sts ss eb w') : SndX X φ ks' ks cl E rm (st :: sts) (s' :: ss) (ea ++ eb) (w ++ w') := by
  obtain ⟨t, p, q⟩ := h1
  obtain ⟨u, p', q'⟩ := h2
  refine ⟨_, pss_cons p p', fun G H σ Γ Φ D0 I h => ?_⟩
  simp only [evSs] at h
  refine q G H σ Γ Φ _ I ?_
  have wd : ∀ {G' H' Φ' Γ'}, Step ea G H Φ Γ G' H' Φ' Γ' → Step (ea ++ eb) G H Φ Γ (fun p => G' p ∨ p ∈ Φ' x) H' (pu Φ' x []) Γ' := fun s => (s.trans Step.closed).wider fun i hi => by
    rcases List.mem_append.mp hi with hi | hi
    · exact List.mem_append_left _ hi
    · rw [List.mem_singleton.mp hi]
      exact List.mem_append_right _ hx
  cases e : evS φ s' Γ with
  | nx Γ1 =>
    rw [e] at h
    intro G1 H1 σ1 Φ1 I1 s1 a1
    exact q' G1 H1 σ1 Γ1 Φ1 D0 I1 (DenS.pre (r := evSs φ ss Γ1) h s1 a1 (fun i hi => List.mem_append_left _ hi) (fun i hi => List.mem_append_right _ hi) (fun i hi => List.mem_append_left _ hi) fun i hi => List.mem_append_right _ hi)
  | rt d Γ1 =>
    rw [e] at h
    intro G1 H1 σ1 Φ1 F v I1 s1 a1 r o
    exact h _ H1 σ1 _ F v (I1.closed tn) (wd s1) (a1.wider fun i hi => List.mem_append_left _ hi) (r.step I1 Step.closed off) (o.mono fun i hi => List.mem_append_left _ hi)
  | bk Γ1 =>
    rw [e] at h
    intro G1 H1 σ1 Φ1 I1 s1 a1
    exact h _ H1 σ1 _ (I1.closed tn) (wd s1) (a1.wider fun i hi => List.mem_append_left _ hi)
  | exc c Γ1 =>
    rw [e] at h
    exact fun G1 H1 σ1 Φ1 I1 s1 a1 => h _ H1 σ1 _ (I1.closed tn) (wd s1) (a1.wider fun i hi => List.mem_append_left _ hi)
  | bad =>
    rw [e] at h
    exact h.elim
theorem ss_thaw (tn : Turned ks ks' x) (h : SndX X φ ks' ks cl E rm sts ss eb w) : SndSs X φ ks cl E rm sts (.drop x :: ss) (x :: eb) w := by
  obtain ⟨t, p, q⟩ := h
  refine ⟨t, p, fun G H σ Γ Φ D0 I hD => ?_⟩
  simp only [evSs, evS, seq_nx] at hD
  exact q G H σ _ _ D0 ((I.drop x).opened tn) (hD.pre (e1 := [x]) (w1 := w) (Step.drop x) Agr.refl (fun i hi => by rw [List.mem_singleton.mp hi]; exact List.mem_cons_self) (fun i hi => List.mem_cons_of_mem _ hi) (fun _ h => h) fun _ h => h)
theorem y_thaw {q : Kd} (x : Nat) (h : SndX X φ (ks.set x q) ks cl E rm sts ss eb w) (hk : kd ks x = .sh := by rfl) (hx : x < ks.length := by decide) (hq : q.fr = false := by rfl) : SndSs X φ ks cl E rm sts (.drop x :: ss) (x :: eb) w := ss_thaw (turned_set hk hx hq) h
theorem y_xc {q : Kd} (x : Nat) (h1 : SndS X φ (ks.set x q) cl E rm st s' ea w) (h2 : SndX X φ (ks.set x q) ks cl E rm sts ss eb w') (hk : kd ks x = .sh := by rfl) (hx : x < ks.length := by decide) (hq : q.fr = false := by rfl) (hm : x ∈ eb := by decide) (off : rm.off [x] = true := by rfl) : SndX X φ (ks.set x q) ks cl E rm (st :: sts) (s' :: ss) (ea ++ eb) (w ++ w') := sx_cons (turned_set hk hx hq) hm off h1 h2
theorem y_xe {q : Kd} (x : Nat) (h : SndSs X φ ks cl E rm sts ss eb w) (hk : kd ks x = .sh := by rfl) (hx : x < ks.length := by decide) (hq : q.fr = false := by rfl) : SndX X φ (ks.set x q) ks cl E rm sts ss (x :: eb) w := sx_end (turned_set hk hx hq) h
end
end CW
/-! Dicts; lists deep within that grow, or are emptied. -/
namespace CW
open PySem L2
section
variable {X : Cx} {φ : FEnv} {ks : List Kd} {cl : Nat → Addr} {E : L2.St → XK} {rm : Md} {G G0 G1 G2 G' : Addr → Prop} {H H0 H' H1 H2 : Hp} {σ σ1 σ2 : L2.St} {Γ Γ0 Γ1 Γ2 Γ' : Env} {Φ Φ0 Φ1 Φ2 Φ' : Nat → List Addr}
variable {m me mi m1 ma mb ms : Md} {eff eff' es ea eb ec ei ep own w w' wa wb : List Nat} {pos : Pos} {F F' F3 : List Addr} {v : V} {d : D} {vs : List V} {ds outs : List D} {K : PySem.W.Frag} {a b e c i : Expr} {a' b' c' i' ir : CW.E} {path : List CW.E} {st : Stmt} {sts sts' : List Stmt} {s' : S} {ss ss' : List S} {D0 D1 : Ends} {r : SR} {W : Addr → Prop}
/-- a name's own value changed in some of its cells -/
theorem SI.chgW {i : Nat} (I : SI K ks G H σ Γ Φ) (hv : σ[i]? = some (some v)) (hi : i < σ.length) (kp : Kp W H H') (hW : ∀ q, W q → q ∈ Φ i) (al : ∀ q, H q ≠ none → H' q ≠ none)
    (o : Own K ((kd ks i).g G) H' F3 v d) (hk : (kd ks i).fr = false) (hne : kd ks i = .os → F3 ≠ []) (t : Tmp G H' (pu Φ i []) F3) :
    SI K ks G H' σ (CW.put Γ i d) (pu Φ i F3) := by
  have w : Wl W H := fun q e o h => by
    obtain ⟨m, z⟩ := I.mut i q (hW q e)
    rw [z] at h
    exact ⟨m, (Option.some.inj h).symm⟩
  have I0 : SI K ks G H' σ (Γ.set i none) (pu Φ i []) := by
    have I1 := I.drop i
    refine ⟨I1.len, I1.kl, fun j d hj => ?_, I1.non, I1.sh, I1.os, I1.dis, I1.gd, fun q g => al q (I.gl q g)⟩
    obtain ⟨v, a, b⟩ := I1.slot j d hj
    refine ⟨v, a, b.keep kp w (fun q g e => I.gd i q (hW q e) (Kd.g_le q g)) (fun _ h => h) fun q hq e => ?_⟩
    rcases pu_mem hq with ⟨_, h⟩ | ⟨hji, h⟩
    · exact nomatch h
    · exact I.dis j i hji q h (hW q e)
  have e2 : ∀ F, pu (pu Φ i []) i F = pu Φ i F := fun F => by
    funext j
    unfold pu
    split <;> rfl
  have := I0.put (i := i) (F := F3) (v := v) (d := d) hi o (fun h => by rw [hk] at h; cases h) hne (by rw [e2]; exact t)
  have e3 : σ.set i (some v) = σ := by
    apply List.ext_getElem?
    intro j
    by_cases h : i = j
    · subst h
      rw [List.getElem?_set_self hi, hv]
    · rw [List.getElem?_set_ne h]
  rw [List.set_set, e2, e3] at this
  exact this
theorem chg_stepW {i : Nat} (s1 : Step ea G H Φ Γ G1 H1 Φ1 Γ1) (kp : Kp W H1 H2) (hW : ∀ q, W q → q ∈ Φ1 i) (al : ∀ q, H1 q ≠ none → H2 q ≠ none) (hF : ∀ q ∈ F3, q ∈ Φ1 i ∨ H q = none ∨ ∃ j ∈ ea, q ∈ Φ j) :
    Step (ea ++ [i]) G H Φ Γ G1 H2 (pu Φ1 i F3) (put Γ1 i d) := by
  have org : ∀ q ∈ Φ1 i, (∃ l ∈ ea ++ [i], q ∈ Φ l) ∨ H q = none := fun q hq => by
    by_cases hi : i ∈ ea
    · rcases s1.fn i hi q hq with ⟨l, hl, z⟩ | z
      · exact .inl ⟨l, List.mem_append_left _ hl, z⟩
      · exact .inr z
    · rw [(s1.fx i hi).1] at hq
      exact .inl ⟨i, List.mem_append_right _ (List.mem_singleton.mpr rfl), hq⟩
  refine ⟨s1.g, fun q g => ?_, fun q o h n => ?_, fun j hj => ?_, fun j hj q hq => ?_, fun q h => ?_⟩
  · rcases s1.gn q g with q | q | ⟨j, hj, q⟩
    · exact .inl q
    · exact .inr (.inl q)
    · exact .inr (.inr ⟨j, List.mem_append_left _ hj, q⟩)
  · refine kp q o (s1.kp q o h fun j hj => n j (List.mem_append_left _ hj)) fun hw => ?_
    rcases org q (hW q hw) with ⟨l, hl, z⟩ | z
    · exact n l hl z
    · rw [z] at h
      cases h
  · have hji : j ≠ i := fun q => hj (List.mem_append_right _ (List.mem_singleton.mpr q))
    unfold put
    rw [pu_ne hji, List.getElem?_set_ne hji.symm]
    exact s1.fx j fun q => hj (List.mem_append_left _ q)
  · rcases pu_mem hq with ⟨_, z⟩ | ⟨hji, z⟩
    · rcases hF q z with h | h | ⟨l, hl, h⟩
      · exact org q h
      · exact .inr h
      · exact .inl ⟨l, List.mem_append_left _ hl, h⟩
    · rcases List.mem_append.mp hj with hj | hj
      · rcases s1.fn j hj q z with ⟨l, hl, z⟩ | z
        · exact .inl ⟨l, List.mem_append_left _ hl, z⟩
        · exact .inr z
      · exact absurd (List.mem_singleton.mp hj) hji
  · refine s1.ex q ?_
    cases e : H1 q with
    | none => rfl
    | some o => exact absurd h (al q (by rw [e]; exact fun h => nomatch h))
theorem tmp_alive {i : Nat} (I : SI K ks G H σ Γ Φ) (al : ∀ q, H q ≠ none → H' q ≠ none) (h : ∀ q ∈ F, q ∈ Φ i) : Tmp G H' (pu Φ i []) F := fun q hq => by
  obtain ⟨a, b, c⟩ := I.dropTmp i q (h q hq)
  exact ⟨a, b, al q c⟩
theorem tmp_alive2 {i : Nat} (t : Tmp G H Φ F) (al : ∀ q, H q ≠ none → H' q ≠ none) : Tmp G H' (pu Φ i []) F := fun q hq => by
  obtain ⟨a, b, c⟩ := t q hq
  refine ⟨a, fun j hj => ?_, al q c⟩
  rcases pu_mem hj with ⟨_, z⟩ | ⟨_, z⟩
  · exact nomatch z
  · exact b j z
theorem upd_al {p : Addr} {x : HO} : ∀ q, H q ≠ none → upd H p x q ≠ none := fun q h => by
  by_cases e : q = p
  · rw [e, upd_same]
    exact fun h => nomatch h
  · rw [upd_ne e]
    exact h
/-! ### dicts -/
theorem snd_dnew : SndE X φ ks cl E (.Dict [] [] pos) .dnew .ow [] := by
  refine ⟨_, pe_dnewT, fun G H σ Γ Φ Q I h => ?_⟩
  simp only [evE] at h
  intro p hp
  have ex := upd_ex (o := HO.dT []) hp
  exact h G _ Φ _ (I.grow ex) (Step.grow ex) ⟨[p], ⟨.dct (ks := []) (vs := []) upd_same rfl .nil (fun h => nomatch h) (Nat.zero_le _), fresh_tmp I hp⟩, fun _ x hq => .inl (by rw [List.mem_singleton.mp hq]; exact hp)⟩
theorem zip_any {α : Type} {k : List Key} : ∀ {kk : List (List Key)} {us : List α}, us.length = kk.length → ((kk.zip us).any fun kv => decide (kv.1 = k)) = kk.any fun q => decide (q = k)
  | [], [], _ => rfl
  | _ :: _, [], h => by cases h
  | [], _ :: _, h => by cases h
  | q :: kk, u :: us, h => by
    rw [List.zip_cons_cons, List.any_cons, List.any_cons, zip_any (by simpa using h)]
theorem zip_put {α : Type} {k : List Key} {x : α} : ∀ {kk : List (List Key)} {us : List α}, us.length = kk.length → (kk.zip us).map (fun kv => if kv.1 = k then (kv.1, x) else kv) = kk.zip ((kk.zip us).map fun p => if p.1 = k then x else p.2)
  | [], [], _ => rfl
  | _ :: _, [], h => by cases h
  | [], _ :: _, h => by cases h
  | q :: kk, u :: us, h => by
    rw [List.zip_cons_cons, List.map_cons, List.map_cons, List.zip_cons_cons, zip_put (by simpa using h)]
    congr 1
    by_cases e : q = k
    · simp [e]
    · simp [e]
theorem putK_zip {kk : List (List Key)} {us : List V} {k : List Key} {x : V} (h : us.length = kk.length) : putK (kk.zip us) k x = (putS kk us k x).1.zip (putS kk us k x).2 := by
  unfold putK putS
  rw [zip_any h]
  split
  · exact zip_put h
  · rw [List.zip_append h.symm]
    rfl
theorem putS_fst {α β : Type} {kk : List (List Key)} {us : List α} {ds : List β} {k : List Key} {x : α} {d : β} : (putS kk us k x).1 = (putS kk ds k d).1 := by
  unfold putS
  split <;> rfl
theorem putS_len {α : Type} {kk : List (List Key)} {us : List α} {k : List Key} {x : α} (h : us.length = kk.length) : (putS kk us k x).2.length = (putS kk us k x).1.length := by
  unfold putS
  split
  · simp only [List.length_map, List.length_zip]
    omega
  · simp only [List.length_append, List.length_cons, List.length_nil]
    omega
theorem putS_le {α : Type} {kk : List (List Key)} {us : List α} {k : List Key} {x : α} : (putS kk us k x).1.length ≤ kk.length + 1 := by
  unfold putS
  split
  · exact Nat.le_succ _
  · simp
theorem zip_own {k : List Key} {x : V} (o : Own K G H [] x d) : ∀ {kk : List (List Key)} {us : List V} {ds : List D}, us.length = kk.length → OwnL K G H [] us ds → OwnL K G H [] ((kk.zip us).map fun p => if p.1 = k then x else p.2) ((kk.zip ds).map fun p => if p.1 = k then d else p.2)
  | [], us, ds, h, t => by
    have : us = [] := List.length_eq_zero_iff.mp h
    subst this
    exact .nil
  | q :: kk, us, ds, h, t => by
    cases ds with
    | nil =>
      have := t.len
      rw [h] at this
      cases this
    | cons z zs =>
      obtain ⟨u, us', e, h1, h2⟩ := t.uncons0
      subst e
      have ih := zip_own (k := k) o (kk := kk) (by simpa using h) h2
      rw [List.zip_cons_cons, List.zip_cons_cons, List.map_cons, List.map_cons]
      refine .cons0 ?_ ih
      by_cases e : q = k
      · simp only [e, if_true]
        exact o
      · simp only [e, if_false]
        exact h1
theorem append0 : ∀ {us us' : List V} {ds ds' : List D}, OwnL K G H [] us ds → OwnL K G H [] us' ds' → OwnL K G H [] (us ++ us') (ds ++ ds')
  | [], _, [], _, _, h' => h'
  | u :: us, _, ds, _, h, h' => by
    cases ds with
    | nil =>
      have := h.len
      cases this
    | cons z zs =>
      obtain ⟨u0, us0, e, h1, h2⟩ := h.uncons0
      cases e
      exact .cons0 h1 (append0 h2 h')
  | [], _, z :: zs, _, h, _ => by
    have := h.len
    cases this
theorem putS_own {kk : List (List Key)} {us : List V} {k : List Key} {x : V} (hl : us.length = kk.length) (t : OwnL K G H [] us ds) (o : Own K G H [] x d) : OwnL K G H [] (putS kk us k x).2 (putS kk ds k d).2 := by
  unfold putS
  split
  · exact zip_own o hl t
  · exact append0 t (.cons0 o .nil)
theorem keysOf_own : ∀ {ds : List D} {F : List Addr} {vs : List V} {k : List Key}, OwnL K G H F vs ds → keysOf ds = some k → vs = k.map kV
  | [], _, _, k, h, e => by
    simp only [keysOf, Option.some.injEq] at e
    subst e
    cases h
    rfl
  | d :: ds, _, _, k, h, e => by
    simp only [keysOf] at e
    obtain ⟨q, e1, e⟩ := Option.bind_eq_some_iff.mp e
    obtain ⟨r, e2, e3⟩ := Option.map_eq_some_iff.mp e
    subst e3
    cases h with
    | cons h t _ =>
      rw [List.map_cons, keysOf_own t e2]
      congr 1
      cases d <;> simp only [keyOf1, reduceCtorEq, Option.some.injEq] at e1
      all_goals
        subst e1
        cases h
        rfl
theorem snd_dput {x : Nat} {n : Str} {p p2 : Pos} (hu : X.A.units + 1 < cLine) (hk : kd ks x = .ow) (hs : simpE i' = true) (hx : x ∉ ei) (hc : noComp e = true) (hpl : plainIx i = true) (ho : me.off ei = true)
    (hN : X.N[x]? = some n) (hv : Vis X.env.scope n) (h1 : (n == ("__debug__" : Str)) = false) (h2 : (n == ("__classdict__" : Str)) = false)
    (he : SndE X φ ks cl E e ir me ea) (hi : SndE X φ ks cl E i i' mi ei) :
    SndS X φ ks cl E rm (.Assign [.Subscript (.Name n p) i p2] e pos) (.dput x i' ir) (ea ++ ei ++ [x]) [] := by
  obtain ⟨te, pe, qe⟩ := he
  obtain ⟨ti, pi, qi⟩ := hi
  refine ⟨_, ps_dput hu (pe_var hN hv h1 h2) pi pe (noComp_ok hc _ _ _), fun G H σ Γ Φ D0 I h => ?_⟩
  simp only [evS] at h
  refine qe G H σ Γ Φ _ I ?_
  cases hev : evE φ ir Γ with
  | bad => rw [hev] at h; exact h.elim
  | exc k Γ1 =>
    rw [hev] at h
    exact fun G1 H1 Φ1 I1 s1 => h G1 H1 σ Φ1 I1 (s1.wider fun j hj => List.mem_append_left _ (List.mem_append_left _ hj)) Agr.refl
  | ok d Γ1 =>
    rw [hev, toS_ok] at h
    intro G1 H1 Φ1 w I1 s1 ⟨Fe, r1, o1⟩
    rcases simp_ok (φ := φ) hs Γ1 with ⟨dk, e2⟩ | e2
    rotate_left
    · rw [e2] at h
      exact h.elim
    rw [e2, toS_ok] at h
    generalize eo : ((keyOf dk).bind fun key => (get Γ1 x).bind fun t => match t with
      | .dct ks vs => if vs.all D.imm && d.imm && decide (ks.length < sizeLine) then (let r := putS ks vs key d; some (D.dct r.1 r.2)) else none
      | _ => none) = o at h
    cases o with
    | none => exact h.elim
    | some t' =>
    obtain ⟨key, e3, eo⟩ := Option.bind_eq_some_iff.mp eo
    obtain ⟨t, e4, eo⟩ := Option.bind_eq_some_iff.mp eo
    cases t <;> first | (cases eo; done) | skip
    rename_i kk zs
    simp only at eo
    split at eo
    rotate_left 1
    · cases eo
    rename_i hcond
    cases eo
    simp only [Bool.and_eq_true, decide_eq_true_eq] at hcond
    obtain ⟨⟨him, hdi⟩, hlt⟩ := hcond
    obtain ⟨v1, g1, _⟩ := own_slot I1 hk e4
    refine ⟨v1, g1, ?_⟩
    refine qi G1 H1 σ Γ1 Φ1 _ I1 ?_
    rw [e2]
    intro G3 H3 Φ3 wk I3 s3 ⟨F, rk, _⟩
    obtain ⟨v3, g3, o3⟩ := own_slot I3 hk e4
    rw [g1] at g3
    cases g3
    have r3 := r1.step I1 s3 ho
    have oe := (r3.own.immut hdi)
    generalize hΦ : Φ3 x = Fx at o3
    cases o3 with
    | dfz g _ _ _ _ => exact g.elim
    | dct hp hl ol hn hz =>
      rename_i a us F0 _
      obtain ⟨ef, ol0⟩ := ol.immut him
      subst ef
      have hus : us.length = kk.length := by rw [ol0.len, hl]
      obtain ⟨b, hb⟩ : ∃ b, wk = .ref b ∧ H3 b = some (.tup (key.map kV)) := by
        cases dk <;> simp only [keyOf, reduceCtorEq] at e3
        obtain ⟨b, bs, q1, q2, q3, _⟩ := rk.own.tups
        rw [keysOf_own q3 e3] at q2
        exact ⟨b, q1, q2⟩
      obtain ⟨rfl, hb2⟩ := hb
      have hpx : a ∈ Φ3 x := by rw [hΦ]; exact List.mem_cons_self
      refine ⟨a, L2.upd H3 a (.dT (putK (kk.zip us) key w)), rfl, DPut.t hp hb2 (by rw [List.length_zip]; omega), ?_⟩
      have kp : Kp (fun q => q = a) H3 (L2.upd H3 a (.dT (putK (kk.zip us) key w))) := upd_kp
      have wl : Wl (fun q => q = a) H3 := fun q e o h => by
        subst e
        rw [hp] at h
        exact ⟨⟨.dT _, .inr ⟨_, rfl⟩⟩, (Option.some.inj h).symm⟩
      have olk : OwnL X.K NoG (L2.upd H3 a (.dT (putK (kk.zip us) key w))) [] us zs := ol0.keep kp wl (fun _ h => h.elim) (fun _ h => h) fun _ h => nomatch h
      have oek : Own X.K NoG (L2.upd H3 a (.dT (putK (kk.zip us) key w))) [] w d := oe.2.keep kp wl (fun _ h => h.elim) (fun _ h => h) fun _ h => nomatch h
      have lz : zs.length = kk.length := hl.symm
      have on : Own X.K NoG (L2.upd H3 a (.dT (putK (kk.zip us) key w))) [a] (.ref a) (.dct (putS kk zs key d).1 (putS kk zs key d).2) := by
        refine .dct (vs := (putS kk us key w).2) ?_ (putS_len lz).symm (putS_own hus olk oek) (fun h => nomatch h) ?_
        · rw [upd_same, putK_zip hus, putS_fst (us := us) (ds := zs) (x := w) (d := d)]
        · rw [putS_len lz]
          have := putS_le (kk := kk) (us := zs) (k := key) (x := d)
          omega
      have s13 := s1.trans s3
      have hxi : x < σ.length := (List.getElem?_eq_some_iff.mp g1).1
      refine h G3 _ _ _ (I3.chgW g1 hxi kp (fun q e => e ▸ hpx) upd_al (by rw [hk]; exact on) (by rw [hk]; rfl) (fun h => by rw [hk] at h; cases h) (tmp_alive I3 upd_al fun q hq => by rw [List.mem_singleton.mp hq]; exact hpx)) (chg_stepW s13 kp (fun q e => e ▸ hpx) upd_al fun q hq => .inl (by rw [List.mem_singleton.mp hq]; exact hpx)) Agr.refl
end
end CW
/-! Lists deep within that grow, or are emptied. -/
namespace CW
open PySem L2
section
variable {X : Cx} {φ : FEnv} {ks : List Kd} {cl : Nat → Addr} {E : L2.St → XK} {rm : Md} {G G0 G1 G2 G' : Addr → Prop} {H H0 H' H1 H2 : Hp} {σ σ1 σ2 : L2.St} {Γ Γ0 Γ1 Γ2 Γ' : Env} {Φ Φ0 Φ1 Φ2 Φ' : Nat → List Addr}
variable {m me mi m1 ma mb ms : Md} {eff eff' es ea eb ec ei ep own w w' wa wb : List Nat} {pos : Pos} {F F' F3 : List Addr} {v : V} {d : D} {vs : List V} {ds outs : List D} {K : PySem.W.Frag} {a b e c i : Expr} {a' b' c' i' ir : CW.E} {path : List CW.E} {st : Stmt} {sts sts' : List Stmt} {s' : S} {ss ss' : List S} {D0 D1 : Ends} {r : SR} {W : Addr → Prop}
theorem Own.mod : ∀ {is : List Int} {F : List Addr} {v : V} {d : D} {ds : List D}, Own K NoG H F v d → pathD d is = some (.lst ds) →
    ∃ p us F1, AtP H v is (.ref p) ∧ H p = some (.lst us) ∧ OwnL K NoG H F1 us ds ∧ ds.length ≤ sizeLine ∧ p ∈ F ∧ p ∉ F1 ∧ (∀ q ∈ F1, q ∈ F) ∧
      ∀ {W : Addr → Prop} {H' : Hp} {us' : List V} {ds' : List D} {F2 Fe : List Addr}, Kp W H H' → Wl W H → (∀ q ∈ F, W q → q = p ∨ q ∈ F1) → H' p = some (.lst us') → OwnL K NoG H' F2 us' ds' → p ∉ F2 → ds'.length ≤ sizeLine → (∀ q ∈ F2, q ∈ F1 ∨ q ∈ Fe) → (∀ q ∈ F, q ∉ Fe) →
        ∃ d' F3, modAt d is ds' = some d' ∧ Own K NoG H' F3 v d' ∧ ∀ q ∈ F3, q ∈ F ∨ q ∈ Fe
  | [], F, v, d, ds, o, h => by
    simp only [pathD, Option.some.injEq] at h
    subst h
    cases o with
    | frz g _ _ _ => exact g.elim
    | lst hp ol hn hz =>
      rename_i p us F1
      refine ⟨p, us, F1, rfl, hp, ol, hz, List.mem_cons_self, hn, fun q hq => List.mem_cons_of_mem _ hq, fun {W H' us' ds' F2 Fe} _ _ _ hp' ol' hn' hz' hs hd => ⟨_, p :: F2, rfl, .lst hp' ol' hn' hz', fun q hq => ?_⟩⟩
      rcases List.mem_cons.mp hq with rfl | hq
      · exact .inl List.mem_cons_self
      · rcases hs q hq with x | x
        · exact .inl (List.mem_cons_of_mem _ x)
        · exact .inr x
  | i :: is, F, v, d, ds, o, h => by
    cases o with
    | tup hp ol hz =>
      rename_i p0 vs0 ds0
      simp only [pathD] at h
      obtain ⟨y, e1, e2⟩ := Option.bind_eq_some_iff.mp h
      obtain ⟨j, e3, e4⟩ := atI_some e1
      obtain ⟨u, F1', h1, h2, h3, h4⟩ := ol.upd e4
      obtain ⟨p, us, F1, g1, g2, g3, g3z, g4, g5, g6, g7⟩ := Own.mod h2 e2
      refine ⟨p, us, F1, ⟨p0, vs0, u, rfl, .inr hp, by rw [show atI vs0 i = _ from atI_of (by rw [ol.len]; exact e3) h1], g1⟩, g2, g3, g3z, h3 _ g4, g5, fun q hq => h3 q (g6 q hq), fun {W H' us' ds' F2 Fe} kp wl hw hp' ol' hn' hz' hs hd => ?_⟩
      obtain ⟨d', F3, q1, q2, q3⟩ := g7 kp wl (fun q hq x => hw q (h3 q hq) x) hp' ol' hn' hz' hs (fun q hq => hd q (h3 q hq))
      obtain ⟨F4, o4, s4⟩ := h4 (H' := H') (Fe := Fe) kp wl (fun q hq x => by
        rcases hw q hq x with z | z
        · exact z ▸ g4
        · exact g6 q z) q2 q3 hd
      rw [set_self h1] at o4
      refine ⟨.tup (ds0.set j d'), F4, ?_, .tup (kp p0 _ hp (fun x => wl.t _ _ hp x)) o4 (by rw [List.length_set]; exact hz), s4⟩
      rw [modAt, e3, Option.bind_some, e4, Option.bind_some, q1]
      rfl
    | frz g _ _ _ => exact g.elim
    | lst hp ol hn hz =>
      rename_i p0 vs0 ds0 F0
      simp only [pathD] at h
      obtain ⟨y, e1, e2⟩ := Option.bind_eq_some_iff.mp h
      obtain ⟨j, e3, e4⟩ := atI_some e1
      obtain ⟨u, F1', h1, h2, h3, h4⟩ := ol.upd e4
      obtain ⟨p, us, F1, g1, g2, g3, g3z, g4, g5, g6, g7⟩ := Own.mod h2 e2
      refine ⟨p, us, F1, ⟨p0, vs0, u, rfl, .inl hp, by rw [show atI vs0 i = _ from atI_of (by rw [ol.len]; exact e3) h1], g1⟩, g2, g3, g3z, List.mem_cons_of_mem _ (h3 _ g4), g5, fun q hq => List.mem_cons_of_mem _ (h3 q (g6 q hq)), fun {W H' us' ds' F2 Fe} kp wl hw hp' ol' hn' hz' hs hd => ?_⟩
      have hw' : ∀ q ∈ F0, W q → q = p ∨ q ∈ F1 := fun q hq x => hw q (List.mem_cons_of_mem _ hq) x
      have hd' : ∀ q ∈ F0, q ∉ Fe := fun q hq => hd q (List.mem_cons_of_mem _ hq)
      have nw : ¬ W p0 := fun x => by
        rcases hw p0 List.mem_cons_self x with z | z
        · exact hn (h3 _ (z ▸ g4))
        · exact hn (h3 _ (g6 _ z))
      obtain ⟨d', F3, q1, q2, q3⟩ := g7 kp wl (fun q hq x => hw' q (h3 q hq) x) hp' ol' hn' hz' hs (fun q hq => hd' q (h3 q hq))
      obtain ⟨F4, o4, s4⟩ := h4 (H' := H') (Fe := Fe) kp wl (fun q hq x => by
        rcases hw' q hq x with z | z
        · exact z ▸ g4
        · exact g6 q z) q2 q3 hd'
      rw [set_self h1] at o4
      refine ⟨.lst (ds0.set j d'), p0 :: F4, ?_, .lst (kp p0 _ hp nw) o4 (fun hq => ?_) (by rw [List.length_set]; exact hz), fun q hq => ?_⟩
      · rw [modAt, e3, Option.bind_some, e4, Option.bind_some, q1]
        rfl
      · rcases s4 p0 hq with x | x
        · exact hn x
        · exact hd p0 List.mem_cons_self x
      · rcases List.mem_cons.mp hq with rfl | hq
        · exact .inl List.mem_cons_self
        · rcases s4 q hq with x | x
          · exact .inl (List.mem_cons_of_mem _ x)
          · exact .inr x
    | _ => simp [pathD] at h
theorem lsP_cases {x : Nat} {ps : List D} (Γ : Env) : (∃ is t zs, intsOf ps = some is ∧ get Γ x = some t ∧ pathD t is = some (.lst zs) ∧ R.ofo (lsP Γ x ps) Γ = .ok is Γ) ∨ R.ofo (lsP Γ x ps) Γ = .bad := by
  unfold lsP
  cases e1 : intsOf ps with
  | none => exact .inr rfl
  | some is =>
    cases e2 : get Γ x with
    | none => exact .inr rfl
    | some t =>
      cases e3 : pathD t is with
      | none =>
        refine .inr ?_
        simp only [Option.bind_some, e3]
        rfl
      | some z =>
        cases z <;> first
          | exact .inl ⟨is, t, _, rfl, rfl, e3, by simp only [Option.bind_some, e3]; rfl⟩
          | (refine .inr ?_; simp only [Option.bind_some, e3]; rfl)
theorem atp_path {x : Nat} {ps : List D} {is : List Int} {t z : D} (hev : evEs φ path Γ = .ok ps Γ) (e1 : intsOf ps = some is) (e2 : get Γ x = some t) (e3 : pathD t is = some z) : pathEv φ x path Γ = .ok is Γ := by
  unfold pathEv
  rw [hev, bind_ok, e1, Option.bind_some, e2, Option.bind_some, e3]
  rfl
/-- x[..].append(e) -/
theorem snd_appp {x : Nat} {p ap cp : Pos} (hab : attributeBase a "append" X.env (eval a X.env) = eval a X.env) (hk : kd ks x = .ow) (hm : me.le .ow = true) (hs : noStar e = true) (hl : (ap.endLine == cp.line) = true) (hx : x ∉ ea) (hb : SndP X φ ks cl E a x path ep) (he : SndE X φ ks cl E e ir me ea) :
    SndS X φ ks cl E rm (.Expr (.Call (.Attribute a "append" ap) [e] [] cp) pos) (.appp x path ir) (ep ++ ea ++ [x]) [] := by
  obtain ⟨tb, pb, hp, hxe, qb⟩ := hb
  obtain ⟨te, pe, qe⟩ := he
  refine ⟨_, ps_expr (pe_bm PySem.F.plainAttrs_list PySem.F.slot_list_append PySem.F.type_list_append mt_append pb (pa_cons pe pa_nil (noStar_ok hs _)) hab (few1 hs _ _) hl (noStar_ok hs _)), fun G H σ Γ Φ D0 I h => ?_⟩
  simp only [evS] at h
  rcases simps_ok (φ := φ) hp Γ with ⟨ps, e1⟩ | e1
  rotate_left
  · rw [e1] at h
    exact h.elim
  rw [e1, toS_ok] at h
  rcases lsP_cases (x := x) (ps := ps) Γ with ⟨is, t, zs, e2, e3, e4, e5⟩ | e5
  rotate_left
  · rw [e5] at h
    exact h.elim
  rw [e5, toS_ok] at h
  refine qb G H σ Γ Φ _ I ?_
  rw [atp_path e1 e2 e3 e4]
  intro G1 H1 Φ1 u I1 s1 ⟨v0, f1, f2⟩
  obtain ⟨v1, g1, o1⟩ := own_slot I1 hk e3
  rw [f1] at g1
  cases g1
  obtain ⟨p0, us0, F1, a1, a2, a3, _, a4, a5, a6, _⟩ := o1.mod e4
  have eu := f2.uniq a1
  subst eu
  refine .inl ⟨rfl, _, SqL.of a2⟩ |> fun z => ⟨z, ?_⟩
  refine qe G1 H1 σ Γ Φ1 _ I1 ?_
  cases hev : evE φ ir Γ with
  | bad => rw [hev] at h; exact h.elim
  | exc k Γ2 =>
    rw [hev] at h
    exact fun G2 H2 Φ2 I2 s2 => h G2 H2 σ Φ2 I2 ((s1.trans s2).wider fun j hj => List.mem_append_left _ hj) Agr.refl
  | ok d Γ2 =>
    rw [hev, toS_ok] at h
    intro G2 H2 Φ2 w I2 s2 ⟨Fe, r2, o2⟩
    have hg : get Γ2 x = some t := by rw [get_step s2 hx]; exact e3
    rw [hg, Option.bind_some] at h
    unfold appAt at h
    rw [e4, Option.bind_some] at h
    simp only at h
    split at h
    rotate_left 1
    · exact h.elim
    rename_i hz
    obtain ⟨v2, g2, o3⟩ := own_slot I2 hk hg
    rw [f1] at g2
    cases g2
    obtain ⟨p1, us, F1', b1, b2, b3, _, b4, b5, b6, b7⟩ := o3.mod e4
    obtain ⟨kt, kf⟩ := step_keep I1 s2 hx
    have f3 := f2.keep kt o1 kf e4
    have e6 := f3.uniq b1
    cases e6
    obtain ⟨oe, te⟩ : Own X.K NoG H2 Fe w d ∧ Tmp G2 H2 Φ2 Fe := ⟨(r2.el (m' := .ow) hm).1, (r2.el (m' := .ow) hm).2⟩
    have hne : ∀ q ∈ Fe, q ≠ p0 := fun q hq z => (te q hq).2.1 x (z ▸ b4)
    have kp : Kp (fun q => q = p0) H2 (L2.upd H2 p0 (.lst (us ++ [w]))) := upd_kp
    have wl := upd_wl b2
    have hll := b3.len
    have on : OwnL X.K NoG (L2.upd H2 p0 (.lst (us ++ [w]))) (F1' ++ Fe) (us ++ [w]) (zs ++ [d]) := (b3.snoc oe fun q hq hq' => (te q hq').2.1 x (b6 q hq)).keep kp wl (fun _ h => h.elim) (fun _ h => h) fun q hq z => by
      rcases List.mem_append.mp hq with hq | hq
      · exact b5 (z ▸ hq)
      · exact hne q hq z
    obtain ⟨t', F3, c1, c2, c3⟩ := b7 (Fe := Fe) kp wl (fun q _ z => .inl z) upd_same on (fun hq => by
      rcases List.mem_append.mp hq with hq | hq
      · exact b5 hq
      · exact hne p0 hq rfl) (by rw [List.length_append]; simp; omega) (fun q hq => (List.mem_append.mp hq).imp id id) (fun q hq hq' => (te q hq').2.1 x hq)
    rw [c1] at h
    refine ⟨p0, us, w, rfl, rfl, b2, by omega, ?_⟩
    have hxi : x < σ.length := (List.getElem?_eq_some_iff.mp f1).1
    have tm : Tmp G2 (L2.upd H2 p0 (.lst (us ++ [w]))) (pu Φ2 x []) F3 := fun q hq => by
      rcases c3 q hq with hq | hq
      · exact tmp_alive (F := Φ2 x) I2 upd_al (fun _ h => h) q hq
      · exact tmp_alive2 te upd_al q hq
    refine h G2 _ _ _ (I2.chgW f1 hxi kp (fun q z => z ▸ b4) upd_al (by rw [hk]; exact c2) (by rw [hk]; rfl) (fun h => by rw [hk] at h; cases h) tm) (chg_stepW (s1.trans s2) kp (fun q z => z ▸ b4) upd_al fun q hq => ?_) Agr.refl
    rcases c3 q hq with hq | hq
    · exact .inl hq
    · refine .inr ?_
      have og : ∀ q ∈ Fe, H1 q = none ∨ ∃ j ∈ ea, q ∈ Φ1 j := fun q hq => by
        cases me with
        | im => rw [r2.1] at hq; exact nomatch hq
        | ow => exact o2 rfl q hq
        | _ => cases hm
      have : Org .ow ea H1 Φ1 Fe := fun _ => og
      exact Org.back s1 this rfl q hq
/-- x[..].clear() -/
theorem snd_clrp {x : Nat} {p ap cp : Pos} (hab : attributeBase a "clear" X.env (eval a X.env) = eval a X.env) (hk : kd ks x = .ow) (hl : (ap.endLine == cp.line) = true) (hb : SndP X φ ks cl E a x path ep) :
    SndS X φ ks cl E rm (.Expr (.Call (.Attribute a "clear" ap) [] [] cp) pos) (.clrp x path) (ep ++ [x]) [] := by
  obtain ⟨tb, pb, hp, hxe, qb⟩ := hb
  refine ⟨_, ps_expr (pe_bm0 PySem.F.plainAttrs_list PySem.F.slot_list_clear PySem.F.type_list_clear mt_clear pb hab hl), fun G H σ Γ Φ D0 I h => ?_⟩
  simp only [evS] at h
  rcases simps_ok (φ := φ) hp Γ with ⟨ps, e1⟩ | e1
  rotate_left
  · rw [e1] at h
    exact h.elim
  rw [e1, toS_ok] at h
  rcases lsP_cases (x := x) (ps := ps) Γ with ⟨is, t, zs, e2, e3, e4, e5⟩ | e5
  rotate_left
  · rw [e5] at h
    exact h.elim
  rw [e5, toS_ok] at h
  refine qb G H σ Γ Φ _ I ?_
  rw [atp_path e1 e2 e3 e4]
  intro G2 H2 Φ2 u I2 s2 ⟨v0, f1, f2⟩
  rw [e3, Option.bind_some] at h
  obtain ⟨v2, g2, o3⟩ := own_slot I2 hk e3
  rw [f1] at g2
  cases g2
  obtain ⟨p0, us, F1', b1, b2, b3, _, b4, b5, b6, b7⟩ := o3.mod e4
  have e6 := f2.uniq b1
  subst e6
  have kp : Kp (fun q => q = p0) H2 (L2.upd H2 p0 (.lst [])) := upd_kp
  have wl := upd_wl b2
  obtain ⟨t', F3, c1, c2, c3⟩ := b7 (Fe := []) (F2 := []) (us' := []) (ds' := []) kp wl (fun q _ z => .inl z) upd_same .nil (fun hq => nomatch hq) (Nat.zero_le _) (fun q hq => nomatch hq) (fun q _ hq => nomatch hq)
  rw [c1] at h
  refine ⟨.inl ⟨rfl, _, SqL.of b2⟩, ⟨p0, us, rfl, rfl, b2, ?_⟩⟩
  have hxi : x < σ.length := (List.getElem?_eq_some_iff.mp f1).1
  have c4 : ∀ q ∈ F3, q ∈ Φ2 x := fun q hq => (c3 q hq).elim id fun z => nomatch z
  exact h G2 _ _ _ (I2.chgW f1 hxi kp (fun q z => z ▸ b4) upd_al (by rw [hk]; exact c2) (by rw [hk]; rfl) (fun h => by rw [hk] at h; cases h) (tmp_alive I2 upd_al c4)) (chg_stepW s2 kp (fun q z => z ▸ b4) upd_al fun q hq => .inl (c4 q hq)) Agr.refl
end
end CW
/-! for row in x[..]: row.append(c). -/
namespace CW
open PySem L2
section
variable {X : Cx} {φ : FEnv} {ks : List Kd} {cl : Nat → Addr} {E : L2.St → XK} {rm : Md} {G G0 G1 G2 G' : Addr → Prop} {H H0 H' H1 H2 : Hp} {σ σ1 σ2 σ' : L2.St} {Γ Γ0 Γ1 Γ2 Γ' : Env} {Φ Φ0 Φ1 Φ2 Φ' : Nat → List Addr}
variable {m me mi m1 ma mb ms : Md} {eff eff' es ea eb ec ei ep own w w' wa wb : List Nat} {pos : Pos} {F F' F3 : List Addr} {v : V} {d : D} {vs : List V} {ds outs : List D} {K : PySem.W.Frag} {a b e c i : Expr} {a' b' c' i' ir : CW.E} {path : List CW.E} {st : Stmt} {sts sts' : List Stmt} {s' : S} {ss ss' : List S} {D0 D1 : Ends} {r : SR} {W : Addr → Prop}
theorem appEach_get {c : D} : ∀ {zs ds : List D}, appEach c zs = some ds → ds.length = zs.length ∧ ∀ (i : Nat) (z : D), zs[i]? = some z → ∃ es, z = .lst es ∧ es.length < sizeLine ∧ ds[i]? = some (.lst (es ++ [c]))
  | [], ds, h => by
    simp only [appEach, Option.some.injEq] at h
    subst h
    exact ⟨rfl, fun i z e => by simp at e⟩
  | z :: zs, ds, h => by
    cases z <;> simp only [appEach, reduceCtorEq] at h
    split at h
    · rename_i hz
      obtain ⟨ds', e1, e2⟩ := Option.map_eq_some_iff.mp h
      subst e2
      obtain ⟨a, b⟩ := appEach_get e1
      refine ⟨by rw [List.length_cons, List.length_cons, a], fun i z e => ?_⟩
      cases i with
      | zero =>
        cases e
        exact ⟨_, rfl, hz, rfl⟩
      | succ i => exact b i z (by simpa using e)
    · cases h
theorem half_get {α : Type} {xs ys : List α} {i : Nat} {y : α} (hl : xs.length = ys.length) (h : ys[i]? = some y) : (xs.take i ++ ys.drop i)[i]? = some y := by
  have hi := (List.getElem?_eq_some_iff.mp h).1
  have e : (xs.take i).length = i := by rw [List.length_take]; omega
  rw [List.getElem?_append_right (by omega), e, Nat.sub_self, List.getElem?_drop, Nat.add_zero, h]
theorem half_set {α : Type} {xs ys : List α} {i : Nat} {x : α} (hl : xs.length = ys.length) (h : xs[i]? = some x) : (xs.take i ++ ys.drop i).set i x = xs.take (i + 1) ++ ys.drop (i + 1) := by
  have hi := (List.getElem?_eq_some_iff.mp h).1
  have e : (xs.take i).length = i := by rw [List.length_take]; omega
  rw [List.set_append_right _ _ (by omega), e, Nat.sub_self, List.drop_eq_getElem_cons (show i < ys.length by omega), List.set_cons_zero, List.take_succ, h, List.append_assoc]
  rfl
/-- a name without data may hold anything -/
theorem SI.reloc {y : Nat} (I : SI K ks G H σ (Γ.set y none) Φ) (hl : σ'.length = σ.length) (ag : ∀ j, j ≠ y → σ'[j]? = σ[j]?) : SI K ks G H σ' (Γ.set y none) Φ := by
  refine ⟨I.len.trans hl.symm, I.kl.trans hl.symm, fun j d hj => ?_, I.non, I.sh, I.os, I.dis, I.gd, I.gl⟩
  have hji : j ≠ y := fun q => by
    subst q
    rw [List.getElem?_set] at hj
    simp at hj
  obtain ⟨v, a, b⟩ := I.slot j d hj
  exact ⟨v, by rw [ag j hji]; exact a, b⟩
theorem snd_fapp {x y : Nat} {n : Str} {p p2 p3 ap cp pos2 : Pos} {cc : Int} {jj : Nat} (hp : PassesOwn (model X.prog X.w) X.A X.env X.xe) (hc : X.calm = true) (hset : noSet a = true) (hk : kd ks x = .ow) (hxy : y ≠ x) (ok : NmOk X ks n y)
    (hv : Vis X.env.scope n) (h1 : (n == ("__debug__" : Str)) = false) (h2 : (n == ("__classdict__" : Str)) = false) (hl : (ap.endLine == cp.line) = true) (hb : SndP X φ ks cl E a x path ep) :
    SndS X φ ks cl E rm (.For (.Name n p) a [.Expr (.Call (.Attribute (.Name n p2) "append" ap) [.Constant (.int cc) jj p3] [] cp) pos2] [] pos) (.fapp x path y cc) (ep ++ [y] ++ [x]) [y] := by
  obtain ⟨tb, pb, hpp, hxe, qb⟩ := hb
  refine ⟨_, ps_for hp hc (pi_list pb) (pg_name ok.nd ok.at_ ok.loc ok.fn) (pss_cons (ps_expr (pe_bm PySem.F.plainAttrs_list PySem.F.slot_list_append PySem.F.type_list_append mt_append (pe_var ok.at_ hv h1 h2) (pa_cons pe_int pa_nil (noStar_ok rfl _)) (by rfl) (few1 rfl _ _) hl (noStar_ok rfl _))) pss_nil) (noSet_ok hset _), fun G H σ Γ Φ D0 I h => ?_⟩
  simp only [evS] at h
  rcases simps_ok (φ := φ) hpp Γ with ⟨ps, e1⟩ | e1
  rotate_left
  · rw [e1] at h
    exact h.elim
  rw [e1, toS_ok] at h
  rcases lsP_cases (x := x) (ps := ps) Γ with ⟨is, t, zs, e2, e3, e4, e5⟩ | e5
  rotate_left
  · rw [e5] at h
    exact h.elim
  rw [e5, toS_ok, e3, Option.bind_some, e4, Option.bind_some] at h
  simp only at h
  cases ea : appEach (.int cc) zs with
  | none =>
    rw [ea] at h
    exact h.elim
  | some ds' =>
  rw [ea, Option.bind_some] at h
  obtain ⟨al1, al2⟩ := appEach_get ea
  refine qb G H σ Γ Φ _ I ?_
  rw [atp_path e1 e2 e3 e4]
  intro G1 H1 Φ1 u I1 s1 ⟨v0, f1, f2⟩
  obtain ⟨v1, g1, o1⟩ := own_slot I1 hk e3
  rw [f1] at g1
  cases g1
  obtain ⟨p0, us, F1, a1, a2, a3, a3z, a4, a5, a6, a7⟩ := o1.mod e4
  have eu := f2.uniq a1
  subst eu
  have hul : us.length = zs.length := a3.len
  have hys : y < σ.length := by rw [← I1.kl]; exact ok.lt
  refine ⟨p0, rfl, ⟨us, SqL.of a2⟩, for_list (K := X.K) (a := p0) (xs := us) (fun i σ' H' => σ'.length = σ.length ∧ (∀ j, j ≠ y → σ'[j]? = σ[j]?) ∧ Kp (fun q => q ∈ F1) H1 H' ∧ (∀ q, H1 q ≠ none → H' q ≠ none) ∧ ∃ Fi, OwnL X.K NoG H' Fi us (ds'.take i ++ zs.drop i) ∧ ∀ q ∈ Fi, q ∈ F1) ?_ (fun i σ' H' _ ⟨_, _, kp, _⟩ => SqL.of (kp _ _ a2 a5)) (fun i u σ' H' hu ⟨l1, l2, kp, al, Fi, oi, fi⟩ => ?_) fun σ' H' ⟨l1, l2, kp, al, Fi, oi, fi⟩ => ?_⟩
  · exact ⟨rfl, fun _ _ => rfl, Kp.refl H1, fun _ h => h, F1, by simpa using a3, fun _ h => h⟩
  · have hi : i < us.length := (List.getElem?_eq_some_iff.mp hu).1
    obtain ⟨z, hz⟩ : ∃ z, zs[i]? = some z := ⟨_, List.getElem?_eq_getElem (by omega)⟩
    obtain ⟨es, rfl, hes, hd⟩ := al2 i z hz
    obtain ⟨u', Fq, q1, q2, q3, q4⟩ := oi.upd (half_get al1 hz)
    rw [hu] at q1
    cases q1
    cases q2 with
    | frz g _ _ _ => exact g.elim
    | lst hq ol hn hzz =>
      rename_i q vs Fq0
      have hqF : q ∈ F1 := fi _ (q3 _ List.mem_cons_self)
      refine ⟨.ref q, List.getElem?_set_self (by omega), .inl ⟨rfl, _, SqL.of hq⟩, ?_⟩
      refine ⟨q, vs, .int cc, rfl, rfl, hq, by rw [ol.len]; exact hes, ?_⟩
      have kq : Kp (fun r => r = q) H' (L2.upd H' q (.lst (vs ++ [.int cc]))) := upd_kp
      have wq := upd_wl hq
      have on : Own X.K NoG (L2.upd H' q (.lst (vs ++ [.int cc]))) (q :: (Fq0 ++ [])) (.ref q) (.lst (es ++ [.int cc])) := by
        refine .lst upd_same ((ol.snoc (F' := []) .int fun _ _ h => nomatch h).keep kq wq (fun _ h => h.elim) (fun _ h => h) fun r hr e => ?_) (by rw [List.append_nil]; exact hn) (by rw [List.length_append]; simp; omega)
        rw [List.append_nil] at hr
        exact hn (e ▸ hr)
      rw [List.append_nil] at on
      obtain ⟨F2, o2, s2⟩ := q4 (Fe := []) kq wq (fun r _ e => e ▸ List.mem_cons_self) on (fun r hr => .inl hr) (fun _ _ h => nomatch h)
      rw [set_self hu, half_set al1 hd] at o2
      refine ⟨by rw [List.length_set]; exact l1, fun j hj => by rw [List.getElem?_set_ne (Ne.symm hj)]; exact l2 j hj, fun r o e n => ?_, fun r hr => upd_al r (al r hr), F2, o2, fun r hr => fi r ((s2 r hr).elim id fun h => nomatch h)⟩
      rw [upd_ne (fun e => n (by show r ∈ F1; rw [e]; exact hqF))]
      exact kp r o e n
  · rw [hul, List.drop_length, List.append_nil, ← al1, List.take_length] at oi
    have wl : Wl (fun q => q ∈ F1) H1 := fun q hq o e => by
      obtain ⟨m, z⟩ := OwnL.mut a3 q hq
      rw [z] at e
      exact ⟨m, (Option.some.inj e).symm⟩
    obtain ⟨t', F3, c1, c2, c3⟩ := a7 (Fe := []) kp wl (fun q _ h => .inr h) (kp _ _ a2 a5) oi (fun hq => a5 (fi _ hq)) (by rw [al1]; exact a3z) (fun q hq => .inl (fi q hq)) (fun _ _ h => nomatch h)
    rw [c1] at h
    have c4 : ∀ q ∈ F3, q ∈ Φ1 x := fun q hq => (c3 q hq).elim id fun z => nomatch z
    have Iy := (I1.drop y).reloc l1 l2
    have ex : pu Φ1 y [] x = Φ1 x := pu_ne (Ne.symm hxy)
    have hxi : x < σ'.length := by rw [l1]; exact (List.getElem?_eq_some_iff.mp f1).1
    have fx : σ'[x]? = some (some v0) := by rw [l2 x (Ne.symm hxy)]; exact f1
    have hW : ∀ q, q ∈ F1 → q ∈ pu Φ1 y [] x := fun q hq => by rw [ex]; exact a6 q hq
    have eΓ : put (Γ.set y none) x t' = (put Γ x t').set y none := by
      unfold put
      exact List.set_comm _ _ hxy
    have I3 := Iy.chgW (F3 := F3) (d := t') fx hxi kp hW al (by rw [hk]; exact c2) (by rw [hk]; rfl) (fun h => by rw [hk] at h; cases h) (tmp_alive Iy al fun q hq => by rw [ex]; exact c4 q hq)
    have S3 := chg_stepW (F3 := F3) (d := t') (s1.trans (Step.drop y)) kp hW al fun q hq => .inl (by rw [ex]; exact c4 q hq)
    rw [eΓ] at I3 S3
    exact h G1 _ σ' _ I3 S3 fun j hj => l2 j fun e => hj (List.mem_singleton.mpr e)
end
end CW
/-! A tuple that ends with the two items of a list given up; comprehensions over a numbered list. -/
namespace CW
open PySem L2
section
variable {X : Cx} {φ : FEnv} {ks : List Kd} {cl : Nat → Addr} {E : L2.St → XK} {G G1 G2 G' : Addr → Prop} {H H0 H' H1 H2 : Hp} {σ σ1 σ2 : L2.St} {Γ Γ1 Γ2 Γ' : Env} {Φ Φ0 Φ1 Φ2 Φ' : Nat → List Addr}
variable {m ms me m1 ma : Md} {eff eff' ea eb ec own : List Nat} {pos : Pos} {F F' : List Addr} {v : V} {d : D} {vs : List V} {ds : List D} {K : PySem.W.Frag} {e c : Expr} {ir : CW.E} {es : List Expr} {irs : List CW.E} {x : Nat}
def SndI (X : Cx) (φ : FEnv) (ks : List Kd) (cl : Nat → Addr) (E : L2.St → XK) (es : List Expr) (irs : List CW.E) (x : Nat) (eff : List Nat) : Prop :=
  ∃ t, PA X es t ∧ ∀ G H σ Γ Φ (Q : List V → Hp → Prop), SI X.K ks G H σ Γ Φ → DenR X ks cl E eff (fun G' H' Φ' ds vs => ∃ F, ResD X.K .ow G' H' Φ' F vs ds ∧ Org .ow eff H Φ F) ((evEs φ irs Γ).bind fun ds Γ => (R.ofo ((get Γ x).bind twoD) Γ).bind fun zs Γ => .ok (ds ++ zs) (Γ.set x none)) G H σ Γ Φ Q → t σ H Q
theorem twoD_of {t : D} {zs : List D} (h : twoD t = some zs) : ∃ a b, t = .lst [a, b] ∧ zs = [a, b] := by
  unfold twoD at h
  split at h
  · cases h
    exact ⟨_, _, rfl, rfl⟩
  · cases h
theorem si_end2 {n : Str} {j j' : Nat} {p p1 p2 p3 p4 p5 : Pos} (hk : kd ks x = .ow) (hN : X.N[x]? = some n) (hv : Vis X.env.scope n) (h1 : (n == ("__debug__" : Str)) = false) (h2 : (n == ("__classdict__" : Str)) = false) :
    SndI X φ ks cl E [.Subscript (.Name n p) (.Constant (.int 0) j p1) p2, .Subscript (.Name n p3) (.Constant (.int 1) j' p4) p5] [] x [x] := by
  refine ⟨_, pa_cons (pe_ix ix_seq (pe_var hN hv h1 h2) pe_int (plainIx_ok rfl)) (pa_cons (pe_ix ix_seq (pe_var hN hv h1 h2) pe_int (plainIx_ok rfl)) pa_nil (noStar_ok rfl _)) (noStar_ok rfl _), fun G H σ Γ Φ Q I h => ?_⟩
  simp only [evEs, bind_ok, List.nil_append] at h
  cases eg : get Γ x with
  | none =>
    rw [eg] at h
    exact h.elim
  | some t =>
    rw [eg, Option.bind_some] at h
    cases et : twoD t with
    | none =>
      rw [et] at h
      exact h.elim
    | some zs =>
      rw [et] at h
      obtain ⟨a, b, rfl, rfl⟩ := twoD_of et
      obtain ⟨v0, e0, o⟩ := I.slot x _ (gets eg)
      rw [hk] at o
      generalize hΦ : Φ x = Fx at o
      cases o with
      | frz g _ _ _ => exact g.elim
      | lst hp ol hn hz =>
        rename_i p us F0
        cases ol with
        | cons oa ob dab =>
          rename_i Fa Fb u1 us1
          cases ob with
          | cons ob on dbn =>
            rename_i Fc Fd u2 us2
            cases on
            have ol : OwnL X.K NoG H (Fa ++ (Fc ++ [])) [u1, u2] [a, b] := .cons oa (.cons ob .nil dbn) dab
            refine ⟨_, e0, .inl ⟨_, _, 0, u1, rfl, rfl, SqL.of hp, rfl, ⟨_, e0, .inl ⟨_, _, 1, u2, rfl, rfl, SqL.of hp, rfl, ?_⟩⟩⟩⟩
            have sub : ∀ q ∈ Fa ++ (Fc ++ []), q ∈ Φ x := fun q hq => by rw [hΦ]; exact List.mem_cons_of_mem _ hq
            exact h G H (pu Φ x []) [u1, u2] (I.drop x) (Step.drop x) ⟨_, ⟨ol, fun q hq => I.dropTmp x q (sub q hq)⟩, fun _ q hq => .inr ⟨x, List.mem_singleton.mpr rfl, sub q hq⟩⟩
theorem si_cons2 (hs : noStar e = true) (he : SndE X φ ks cl E e ir ma ea) (hle : ma.le .ow = true) (ht : SndI X φ ks cl E es irs x eb) : SndI X φ ks cl E (e :: es) (ir :: irs) x (ea ++ eb) := by
  obtain ⟨te, pe, qe⟩ := he
  obtain ⟨ta, pa, qa⟩ := ht
  refine ⟨_, pa_cons pe pa (noStar_ok hs _), fun G H σ Γ Φ Q I h => ?_⟩
  have h0 : DenR X ks cl E (ea ++ eb) (fun G' H' Φ' ds vs => ∃ F, ResD X.K .ow G' H' Φ' F vs ds ∧ Org .ow (ea ++ eb) H Φ F) ((evE φ ir Γ).bind fun d Γ => ((evEs φ irs Γ).bind fun ds Γ => (R.ofo ((get Γ x).bind twoD) Γ).bind fun zs Γ => .ok (ds ++ zs) (Γ.set x none)).bind fun ds Γ => .ok (d :: ds) Γ) G H σ Γ Φ Q := by
    have e0 : ((evEs φ (ir :: irs) Γ).bind fun ds Γ => (R.ofo ((get Γ x).bind twoD) Γ).bind fun zs Γ => R.ok (ds ++ zs) (Γ.set x none)) = ((evE φ ir Γ).bind fun d Γ => ((evEs φ irs Γ).bind fun ds Γ => (R.ofo ((get Γ x).bind twoD) Γ).bind fun zs Γ => .ok (ds ++ zs) (Γ.set x none)).bind fun ds Γ => .ok (d :: ds) Γ) := by
      rw [evEs, bind_assoc]
      congr 1
      funext d Γ1
      rw [bind_assoc, bind_assoc]
      congr 1
      funext ds Γ2
      rw [bind_ok, bind_assoc]
      rfl
    rw [← e0]
    exact h
  refine qe G H σ Γ Φ _ I (h0.seq sub_l fun d Γ1 G1 H1 Φ1 v I1 s1 r1 h1 => ?_)
  refine qa G1 H1 σ Γ1 Φ1 _ I1 (h1.seq sub_r fun ds Γ2 G2 H2 Φ2 vs I2 s2 r2 h2 => ?_)
  obtain ⟨F1, r1, o1⟩ := r1
  obtain ⟨F2, r2, o2⟩ := r2
  have o1' := o1.le r1 hle
  have r1' := (r1.el hle).step I1 s2
  have nt : ∀ p ∈ F1, p ∉ F2 := fun p hp hq => by
    obtain ⟨_, b, c⟩ := (r1.el hle).2 p hp
    rcases o2 rfl p hq with q | ⟨i, _, q⟩
    · exact c q
    · exact b i q
  refine h2.here I2 ⟨F1 ++ F2, ⟨.cons r1'.1 r2.1 nt, fun p hp => (List.mem_append.mp hp).elim (r1'.2 p) (r2.2 p)⟩, fun t p hp => ?_⟩
  rcases List.mem_append.mp hp with hp | hp
  · exact (o1'.mono sub_l) t p hp
  · exact Org.back s1 o2 t p hp
theorem snd_tupI {k : Nat} (hl : irs.length ≤ 1000) (h : SndI X φ ks cl E es irs x eff) : SndE X φ ks cl E (.Tuple es k pos) (.tupI irs x) .ow eff := by
  obtain ⟨t, p, q⟩ := h
  refine ⟨_, pe_tup p, fun G H σ Γ Φ Q I h => ?_⟩
  simp only [evE] at h
  refine q G H σ Γ Φ _ I ?_
  cases hev : evEs φ irs Γ with
  | bad =>
    rw [hev] at h
    exact h.elim
  | exc c Γ2 =>
    rw [hev] at h
    exact h
  | ok ds Γ2 =>
    rw [hev, bind_ok] at h
    rw [bind_ok]
    cases et : (get Γ2 x).bind twoD with
    | none =>
      rw [et] at h
      exact h.elim
    | some zs =>
    rw [et, ofo_some, bind_ok] at h
    rw [ofo_some, bind_ok]
    intro G1 H1 Φ1 vs I1 s1 ⟨F, r1, o1⟩
    have hlen := evEs_len hev
    obtain ⟨t, _, e2⟩ := Option.bind_eq_some_iff.mp et
    obtain ⟨a, b, _, ez⟩ := twoD_of e2
    have hvs := r1.len
    have hz' : (2000 : Nat) ≤ sizeLine := by decide
    have hlz : (ds ++ zs).length ≤ sizeLine := by
      rw [List.length_append, ez]
      simp only [List.length_cons, List.length_nil]
      omega
    refine ⟨by omega, fun p hp => ?_⟩
    have ex := upd_ex (o := HO.tup vs) hp
    have gr : Step eff G1 H1 Φ1 (Γ2.set x none) G1 (upd H1 p (.tup vs)) Φ1 (Γ2.set x none) := (Step.grow ex).wider fun _ h => nomatch h
    have r2 := r1.step I1 gr
    exact h G1 _ Φ1 _ (I1.grow ex) ((s1.trans gr).wider fun i hi => (List.mem_append.mp hi).elim id id) ⟨F, ⟨.tup upd_same r2.1 hlz, r2.2⟩, o1⟩
/-! ### numbered -/
theorem numD_len : (numD ds).length = ds.length := by
  unfold numD
  rw [List.length_map, List.length_zipIdx]
theorem numD_get {i : Nat} (h : ds[i]? = some d) : (numD ds)[i]? = some (.tup [.int (i : Nat), d]) := by
  unfold numD
  rw [List.getElem?_map, List.getElem?_zipIdx, h]
  simp
theorem CI.grow {tg : Tg} {c : Option CW.E} {elt : CW.E} {D0 : Addr} {ys : List D} {i : Nat} (p : CI X φ ks own tg c elt me eff σ D0 G1 H1 Φ1 Γ1 ds ys Γ2 i H) (ex : ∀ q o, H q = some o → H' q = some o) : CI X φ ks own tg c elt me eff σ D0 G1 H1 Φ1 Γ1 ds ys Γ2 i H' := by
  obtain ⟨G, Γ, Φ, acc, av, F, hc, hlen, I, s, hD, r, org, nG, nΦ, nF, hal⟩ := p.ex
  have gr : Step eff G H Φ (wipeE Γ own) G H' Φ (wipeE Γ own) := (Step.grow ex).wider fun _ h => nomatch h
  exact ⟨⟨G, Γ, Φ, acc, av, F, hc, hlen, I.grow ex, (s.trans gr).wider fun i hi => (List.mem_append.mp hi).elim id id, ex _ _ hD, r.step I gr, org, nG, nΦ, nF, hal⟩⟩
theorem lc_enum {a : Addr} {xs : List V} {g : TG} {tt : TT} {te : TE} {vs : List Nat} {Dd : Addr} {Qd : Hp → Prop} (Pv : Nat → Hp → Prop) (h0 : Pv 0 (upd H1 Dd (.lst []))) (hl : ∀ i H, i ≤ xs.length → Pv i H → SqL K H a xs)
    (hs : ∀ i x T H, xs[i]? = some x → Pv i H → H T = none → g (.ref T) (L2.wipe σ vs) (upd H T (.tup [.int (i : Nat), x])) fun σ2 H2 => L2.wipe σ2 vs = L2.wipe σ vs ∧ tt σ2 H2 fun b H3 =>
      if b = true then te σ2 H3 fun y H4 => ∃ acc, H4 Dd = some (.lst acc) ∧ acc.length < sizeLine ∧ Pv (i + 1) (upd H4 Dd (.lst (acc ++ [y]))) else Pv (i + 1) H3) (hd : ∀ H, Pv xs.length H → Qd H) :
    ∃ W : Nat → Nat → Hp → Prop, (∃ m, W 0 m (upd H1 Dd (.lst []))) ∧ ∀ i m H, W i m H →
      ((Ite K a).stop i H ∧ Qd H) ∨ ((Ite K a).go i H ∧ ∃ Nx : Hp → Prop, (∀ H', Nx H' → ∃ m', m' < m ∧ W (i + 1) m' H') ∧ ∀ x H', (Ite K a).yld i H x H' → g x (L2.wipe σ vs) H' fun σ2 H2 => L2.wipe σ2 vs = L2.wipe σ vs ∧ tt σ2 H2 fun b H3 =>
        if b = true then te σ2 H3 fun y H4 => ∃ acc, H4 Dd = some (.lst acc) ∧ acc.length < sizeLine ∧ Nx (upd H4 Dd (.lst (acc ++ [y]))) else Nx H3) := by
  refine ⟨fun i m H => m = xs.length - i ∧ i ≤ xs.length ∧ Pv i H, ⟨xs.length, by simp, Nat.zero_le _, h0⟩, ?_⟩
  rintro i m H ⟨rfl, hi, p⟩
  have q := hl i H hi p
  by_cases hlt : i < xs.length
  · refine .inr ⟨⟨xs, xs[i], q, by simp [hlt]⟩, Pv (i + 1), fun H' p' => ⟨xs.length - (i + 1), by omega, rfl, hlt, p'⟩, fun x H' y => ?_⟩
    obtain ⟨T, z, rfl, hT, rfl, hx⟩ := y
    exact hs i z T H (hx xs q) p hT
  · have e : i = xs.length := by omega
    subst e
    exact .inl ⟨⟨xs, q, Nat.le_refl _⟩, hd H p⟩
theorem snd_lce {iter eltE : Expr} {ifs : List Expr} {scope : Scope} {own : List (Str × Nat)} {tg : Tg} {c : Option CW.E} {elt : CW.E} {iter' : CW.E} {es : List Nat} {elts : List Expr} {kk : Nat} {tpos p0 p1 : Pos}
    (hc : X.calm = true) (hN : X.N.Nodup) (hg : Gl X "enumerate") (hn : X.mg "enumerate" = none) (hst : noStar iter = true) (hs : SndE X φ ks cl E iter iter' ms es) (ht : ms.bare = true) (hoff : ms.off (ec ++ ea) = true)
    (B : Blk X φ ks cl scope own .sh (.Tuple elts kk tpos) tg ifs c ec eltE elt m1 ea) (hle : m1.le me = true) (hm : lcM me m = true) :
    SndLC X φ ks cl E (.ListComp eltE [⟨.Tuple elts kk tpos, .Call (.Name "enumerate" p0) [iter] [] p1, ifs, 0⟩] scope pos) (.lce (own.map (·.2)) tg iter' c elt) m (es ++ (ec ++ ea)) := by
  obtain ⟨t, p, q⟩ := hs
  refine ⟨_, pe_lc hc hN (pi_enum hg hn (pa_cons p pa_nil (noStar_ok hst _)) (by rw [noStar_ok hst]; rfl)) B.ok B.g B.t B.e (noSet_ok rfl _), (fun i y py spos h1 h2 h3 => ps_setLc hc hN h1 h2 h3 (pi_enum hg hn (pa_cons p pa_nil (noStar_ok hst _)) (by rw [noStar_ok hst]; rfl)) B.ok B.g B.t B.e (noSet_ok rfl _)), fun G H σ Γ Φ Q I h => ?_⟩
  simp only [evE] at h
  refine q G H σ Γ Φ _ I (h.seq sub_l fun x Γ1 G1 H1 Φ1 v I1 s1 r1 h1 => ?_)
  obtain ⟨F, r1, _⟩ := r1
  have ht2 : ms.tmp = false := by cases ms <;> first | rfl | cases ht
  cases x <;> first | exact h1.elim | skip
  rename_i ds
  obtain ⟨a, us, F', rfl, ha, o1, f1, l1⟩ := r1.own.seq
  simp only [itemsOf, ofo_some, bind_ok] at h1
  have hT := compL_ok (T := compT φ (own.map (·.2)) tg c elt) (fun d Γ k Γ' => compT_ne d Γ k Γ') (ds := numD ds) (acc := []) (Γ := wipeE Γ1 (own.map (·.2)))
  rcases hT with ⟨ys, Γ2, hT⟩ | hT
  · have h2 : DenR X ks cl E (es ++ (ec ++ ea)) (RelE X m (es ++ (ec ++ ea)) H Φ) (.ok (.lst ys) (backE Γ1 Γ2 (own.map (·.2)))) G1 H1 σ Γ1 Φ1 Q := by
      have := h1
      rw [show compL (fun d Γ => noExc ((R.ofo (Tg.bind tg d (wipeE Γ (own.map (·.2)))) Γ).bind fun Γ _ => (evC φ c Γ).bind fun k Γ => if k then (evE φ elt Γ).bind fun y Γ => .ok (some y) Γ else .ok none Γ)) (numD ds) [] (wipeE Γ1 (own.map (·.2))) = .ok ys Γ2 from hT] at this
      exact this
    have I1w := I1.wipe B.fr
    have kept : ∀ {H2 : Hp} {i : Nat} {D0 : Addr}, CI X φ ks (own.map (·.2)) tg c elt me (ec ++ ea) σ D0 G1 H1 Φ1 Γ1 (numD ds) ys Γ2 i H2 → H2 a = some (.lst us) := fun p => by
      obtain ⟨G, Γ, Φ, acc, av, F, _, _, _, s, _⟩ := p.ex
      exact s.kp a _ ha (Res.kept I1w r1 ht2 hoff)
    refine ⟨a, us, rfl, SqL.of ha, fun D0 hD0 => lc_enum (K := X.K) (a := a) (xs := us) (fun i H => CI X φ ks (own.map (·.2)) tg c elt me (ec ++ ea) σ D0 G1 H1 Φ1 Γ1 (numD ds) ys Γ2 i H) ?_ (fun i H2 _ p => SqL.of (kept p)) (fun i x T H2 hx p hT => ?_) (fun H2 p => ?_)⟩
    · exact comp_start B.fr (me_of hm) hD0 I1 hT
    · have hi : i < us.length := (List.getElem?_eq_some_iff.mp hx).1
      have hid : i < ds.length := by rw [← o1.len]; exact hi
      have ex := upd_ex (o := HO.tup [.int (i : Nat), x]) hT
      refine comp_turnH B.fr B.sl hle (d := .tup [.int (i : Nat), ds[i]]) (numD_get (List.getElem?_eq_getElem hid)) (by omega) (fun G2 Φ2 Γ3 I2 s2 => ?_) I1w hD0 (p.grow ex)
      have r2 := r1.step I1w s2 hoff
      obtain ⟨u, F2, it, q2⟩ := r2.item ht2 (ds := ds) rfl (List.getElem?_eq_getElem hid)
      obtain ⟨p', us', ep, hh, e3⟩ := it
      cases ep
      have ha2 := s2.kp a _ ha (Res.kept I1w r1 ht2 hoff)
      rcases hh with hh | hh <;> rw [ha2] at hh <;> cases hh
      rw [hx] at e3
      cases e3
      have q3 : Own X.K G2 (upd H2 T (.tup [.int (i : Nat), x])) [] x ds[i] := by
        have hF : F2 = [] := q2.bare ht
        subst hF
        exact q2.own
      exact ⟨[], rfl, .tup upd_same (.cons0 .int (.cons0 q3 .nil)) (by show 2 ≤ sizeLine; decide)⟩
    · exact comp_end B.fr hm (by rw [numD_len]; exact o1.len.symm) (by rw [o1.len]; exact l1) hD0 I1 s1 h2 p
  · exfalso
    have := h1
    rw [show compL (fun d Γ => noExc ((R.ofo (Tg.bind tg d (wipeE Γ (own.map (·.2)))) Γ).bind fun Γ _ => (evC φ c Γ).bind fun k Γ => if k then (evE φ elt Γ).bind fun y Γ => .ok (some y) Γ else .ok none Γ)) (numD ds) [] (wipeE Γ1 (own.map (·.2))) = .bad from hT] at this
    exact this
end
end CW
/-! x, y = a, b; the words for the rules above. -/
namespace CW
open PySem L2
section
variable {X : Cx} {φ : FEnv} {ks : List Kd} {cl : Nat → Addr} {E : L2.St → XK} {rm : Md} {G G1 G2 G' : Addr → Prop} {H H0 H' H1 H2 : Hp} {σ σ1 σ2 : L2.St} {Γ Γ1 Γ2 Γ' : Env} {Φ Φ0 Φ1 Φ2 Φ' : Nat → List Addr}
variable {m m2 me mi m1 ma mb mc ms : Md} {eff eff' es' ea eb ec ei ep own w w' wa wb : List Nat} {pos pos' p p2 : Pos} {F F' : List Addr} {v : V} {d : D} {K : PySem.W.Frag} {x : Str} {a b c e i iter tgE eltE : Expr} {a' b' c' i' ir iter' elt : CW.E} {es ifs : List Expr} {irs path : List CW.E} {st : Stmt} {sts sts' : List Stmt} {s' : S} {ss ss' : List S} {tg : Tg} {scope : Scope} {D0 : Ends}
theorem Res.phi (h : m.bare = true) (r : Res K m G H Φ F v d) : F = [] ∧ Res K m G H Φ' F v d := by
  cases m <;> first
    | (cases h; done)
    | exact ⟨r.1, r⟩
theorem off_bare (h : m.bare = true) : m.off eff = true := by
  cases m <;> first | rfl | cases h
theorem snd_par {x y : Str} {i j : Nat} {px py pt pt2 : Pos} {kt k2 : Nat} (okx : NmOk X ks x i) (oky : NmOk X ks y j) (hij : i ≠ j) (hc : X.calm = true) (hx : X.env.scope.names.lookup x = some .local) (hy : X.env.scope.names.lookup y = some .local)
    (hw : swappedStores [.Tuple [.Name x px, .Name y py] kt pt] (.Tuple [a, b] k2 pt2) X.env = pure (some [x, y])) (hsw : swapsWithSole [.Tuple [.Name x px, .Name y py] kt pt] (.Tuple [a, b] k2 pt2) pos.line X.env = pure false)
    (h1 : noStar a = true) (h2 : noStar b = true) (ha : SndE X φ ks cl E a a' ma ea) (hb : SndE X φ ks cl E b b' mb eb) (f1 : ma.bare = true) (f2 : mb.bare = true) (t1 : ma.to (kd ks i) = true) (t2 : mb.to (kd ks j) = true) :
    SndS X φ ks cl E rm (.Assign [.Tuple [.Name x px, .Name y py] kt pt] (.Tuple [a, b] k2 pt2) pos) (.par i j a' b') (ea ++ (eb ++ [i, j])) [i, j] := by
  obtain ⟨ta, pa, qa⟩ := ha
  obtain ⟨tb, pb, qb⟩ := hb
  refine ⟨_, ps_par hc okx.nd okx.at_ oky.at_ hij hx hy (pa_cons pa (pa_cons pb pa_nil (noStar_ok h2 _)) (noStar_ok h1 _)) hw hsw, fun G H σ Γ Φ D0 I h => ?_⟩
  simp only [evS] at h
  refine qa G H σ Γ Φ _ I (h.expr sub_l fun d Γ1 G1 H1 Φ1 v I1 s1 r1 h1 => ?_)
  refine qb G1 H1 σ Γ1 Φ1 _ I1 (h1.expr (fun k hk => List.mem_append_right _ (List.mem_append_left _ hk)) fun d2 Γ2 G2 H2 Φ2 v2 I2 s2 r2 h2 => ?_)
  obtain ⟨F1, r1, _⟩ := r1
  obtain ⟨F2, r2, _⟩ := r2
  have r1' := r1.step I1 s2 (off_bare f1)
  obtain ⟨e1, _⟩ := Res.phi (Φ' := Φ2) f1 r1'
  subst e1
  obtain ⟨I3, _⟩ := I2.store (H0 := H2) (Φ0 := Φ2) okx.lt r1' t1
  obtain ⟨e2, r2'⟩ := Res.phi (Φ' := pu Φ2 i []) f2 r2
  subst e2
  obtain ⟨I4, _⟩ := I3.store (H0 := H2) (Φ0 := Φ2) oky.lt r2' t2
  refine ⟨v, v2, rfl, h2 G2 H2 _ _ I4 ⟨fun _ h => h, fun _ h => .inl h, fun _ _ h _ => h, fun k hk => ?_, fun k hk q hq => ?_, fun _ h => h⟩ fun k hk => ?_⟩
  · have hk' : k ≠ i ∧ k ≠ j := ⟨fun e => hk (List.mem_append_right _ (List.mem_append_right _ (by simp [e]))), fun e => hk (List.mem_append_right _ (List.mem_append_right _ (by simp [e])))⟩
    unfold put
    rw [pu_ne hk'.2, pu_ne hk'.1, List.getElem?_set_ne (Ne.symm hk'.2), List.getElem?_set_ne (Ne.symm hk'.1)]
    exact ⟨rfl, rfl⟩
  · rcases pu_mem hq with ⟨_, z⟩ | ⟨_, z⟩
    · exact nomatch z
    · rcases pu_mem z with ⟨_, z⟩ | ⟨_, z⟩
      · exact nomatch z
      · exact .inl ⟨k, hk, z⟩
  · have hk' : k ≠ i ∧ k ≠ j := by simpa using hk
    rw [List.getElem?_set_ne (Ne.symm hk'.2), List.getElem?_set_ne (Ne.symm hk'.1)]
theorem y_par {y : Str} {px py pt pt2 : Pos} {kt k2 : Nat} (nd : X.N.Nodup) (i j : Nat) (ha : SndE X φ ks cl E a a' ma ea) (hb : SndE X φ ks cl E b b' mb eb) (t1 : ma.to (kd ks i) = true := by rfl) (t2 : mb.to (kd ks j) = true := by rfl) (f1 : ma.bare = true := by rfl) (f2 : mb.bare = true := by rfl)
    (hN : X.N[i]? = some x := by rfl) (hN' : X.N[j]? = some y := by rfl) (hl : X.env.scope.names.lookup x = some .local := by rfl) (hl' : X.env.scope.names.lookup y = some .local := by rfl) (hi : i < ks.length := by decide) (hj : j < ks.length := by decide) (hij : i ≠ j := by decide) (hc : X.calm = true := by rfl)
    (hw : swappedStores [.Tuple [.Name x px, .Name y py] kt pt] (.Tuple [a, b] k2 pt2) X.env = pure (some [x, y]) := by rfl) (hsw : swapsWithSole [.Tuple [.Name x px, .Name y py] kt pt] (.Tuple [a, b] k2 pt2) pos.line X.env = pure false := by rfl) (h1 : noStar a = true := by rfl) (h2 : noStar b = true := by rfl) :
    SndS X φ ks cl E rm (.Assign [.Tuple [.Name x px, .Name y py] kt pt] (.Tuple [a, b] k2 pt2) pos) (.par i j a' b') (ea ++ (eb ++ [i, j])) [i, j] :=
  snd_par ⟨nd, hN, .inl hl, .inr hl, hi⟩ ⟨nd, hN', .inl hl', .inr hl', hj⟩ hij hc hl hl' hw hsw h1 h2 ha hb f1 f2 t1 t2
theorem y_dnew : SndE X φ ks cl E (.Dict [] [] pos) .dnew .ow [] := snd_dnew
theorem y_dput (hu : X.A.units + 65 < cLine) (x : Nat) {n : Str} (he : SndE X φ ks cl E e ir me ea) (hi : SndE X φ ks cl E i i' mi ei) (hk : kd ks x = .ow := by rfl) (hs : simpE i' = true := by rfl) (hx : x ∉ ei := by decide) (hc : noComp e = true := by rfl) (hpl : plainIx i = true := by rfl) (ho : me.off ei = true := by rfl)
    (hN : X.N[x]? = some n := by rfl) (hv : Vis X.env.scope n := by first | exact Or.inl rfl | exact Or.inr (Or.inl rfl) | exact Or.inr (Or.inr rfl)) (h1 : (n == ("__debug__" : Str)) = false := by decide) (h2 : (n == ("__classdict__" : Str)) = false := by decide) :
    SndS X φ ks cl E rm (.Assign [.Subscript (.Name n p) i p2] e pos) (.dput x i' ir) (ea ++ ei ++ [x]) [] := snd_dput (by omega) hk hs hx hc hpl ho hN hv h1 h2 he hi
theorem y_appp (x : Nat) {ap cp : Pos} (hb : SndP X φ ks cl E a x path ep) (he : SndE X φ ks cl E e ir me ea) (hk : kd ks x = .ow := by rfl) (hm : me.le .ow = true := by rfl) (hs : noStar e = true := by rfl) (hl : (ap.endLine == cp.line) = true := by decide) (hx : x ∉ ea := by decide) (hab : attributeBase a "append" X.env (eval a X.env) = eval a X.env := by rfl) :
    SndS X φ ks cl E rm (.Expr (.Call (.Attribute a "append" ap) [e] [] cp) pos) (.appp x path ir) (ep ++ ea ++ [x]) [] := snd_appp (p := ap) hab hk hm hs hl hx hb he
theorem y_clrp (x : Nat) {ap cp : Pos} (hb : SndP X φ ks cl E a x path ep) (hk : kd ks x = .ow := by rfl) (hl : (ap.endLine == cp.line) = true := by decide) (hab : attributeBase a "clear" X.env (eval a X.env) = eval a X.env := by rfl) :
    SndS X φ ks cl E rm (.Expr (.Call (.Attribute a "clear" ap) [] [] cp) pos) (.clrp x path) (ep ++ [x]) [] := snd_clrp (p := ap) hab hk hl hb
theorem y_fapp (px : PassesOwn (model X.prog X.w) X.A X.env X.xe) (nd : X.N.Nodup) (x y : Nat) {n : Str} {p p2 p3 ap cp pos2 : Pos} {cc : Int} {jj : Nat} (hb : SndP X φ ks cl E a x path ep) (hk : kd ks x = .ow := by rfl) (hxy : y ≠ x := by decide) (hset : noSet a = true := by rfl) (hc : X.calm = true := by rfl)
    (hN : X.N[y]? = some n := by rfl) (hlo : Loc X.env.scope n := by first | exact Or.inl rfl | exact Or.inr rfl) (hf : X.fn n = true ∨ X.env.scope.names.lookup n = some .local := by first | exact Or.inl rfl | exact Or.inr rfl) (hi : y < ks.length := by decide) (hv : Vis X.env.scope n := by first | exact Or.inl rfl | exact Or.inr (Or.inl rfl) | exact Or.inr (Or.inr rfl)) (h1 : (n == ("__debug__" : Str)) = false := by decide) (h2 : (n == ("__classdict__" : Str)) = false := by decide) (hl : (ap.endLine == cp.line) = true := by decide) :
    SndS X φ ks cl E rm (.For (.Name n p) a [.Expr (.Call (.Attribute (.Name n p2) "append" ap) [.Constant (.int cc) jj p3] [] cp) pos2] [] pos) (.fapp x path y cc) (ep ++ [y] ++ [x]) [y] := snd_fapp px hc hset hk hxy ⟨nd, hN, hlo, hf, hi⟩ hv h1 h2 hl hb
theorem y_i2 (x : Nat) {n : Str} {j j' : Nat} {p p1 p2 p3 p4 p5 : Pos} (hk : kd ks x = .ow := by rfl) (hN : X.N[x]? = some n := by rfl) (hv : Vis X.env.scope n := by first | exact Or.inl rfl | exact Or.inr (Or.inl rfl) | exact Or.inr (Or.inr rfl)) (h1 : (n == ("__debug__" : Str)) = false := by decide) (h2 : (n == ("__classdict__" : Str)) = false := by decide) :
    SndI X φ ks cl E [.Subscript (.Name n p) (.Constant (.int 0) j p1) p2, .Subscript (.Name n p3) (.Constant (.int 1) j' p4) p5] [] x [x] := si_end2 hk hN hv h1 h2
theorem y_ic {x : Nat} (he : SndE X φ ks cl E e ir ma ea) (ht : SndI X φ ks cl E es irs x eb) (hs : noStar e = true := by rfl) (hle : ma.le .ow = true := by rfl) : SndI X φ ks cl E (e :: es) (ir :: irs) x (ea ++ eb) := si_cons2 hs he hle ht
theorem y_tupI {x k : Nat} (h : SndI X φ ks cl E es irs x eff) (hl : irs.length ≤ 1000 := by decide) : SndE X φ ks cl E (.Tuple es k pos) (.tupI irs x) .ow eff := snd_tupI hl h
theorem y_lce {c : Option CW.E} (me m : Md) (own : List (Str × Nat)) {elts : List Expr} {kk : Nat} {tpos p0 p1 : Pos} (nd : X.N.Nodup) (hn : X.mg "enumerate" = none) (hs : SndE X φ ks cl E iter iter' ms es') (hg : ∀ (s : Shared) (H : Hp) (C : Addr) (cl' : List (Str × Addr)) (fp : List Addr), SndG (X.blk s H scope (compEnvC scope cl' C X.env) fp) ks .sh (.Tuple elts kk tpos) tg)
    (ht : ∀ (s : Shared) (H : Hp) (C : Addr) (cl' : List (Str × Addr)) (fp : List Addr), PTs (X.blk s H scope (compEnvC scope cl' C X.env) fp) ifs (tdIf φ X ks cl ec c)) (he : ∀ (s : Shared) (H : Hp) (C : Addr) (cl' : List (Str × Addr)) (fp : List Addr), SndE (X.blk s H scope (compEnvC scope cl' C X.env) fp) φ ks cl noE eltE elt m1 ea)
    (ok : blkC X.N X.env.scope scope own = true := by kernel_rfl) (fr : ∀ j ∈ own.map (·.2), (kd ks j).fr = true := by decide) (sl : ∀ j ∈ tg.slots, j ∈ own.map (·.2) := by decide) (off : ms.off (ec ++ ea) = true := by rfl) (hle : m1.le me = true := by rfl) (hm : lcM me m = true := by rfl) (htm : ms.bare = true := by rfl) (hst : noStar iter = true := by rfl) (hg0 : Gl X "enumerate" := by rfl) (hc : X.calm = true := by rfl) :
    SndLC X φ ks cl E (.ListComp eltE [⟨.Tuple elts kk tpos, .Call (.Name "enumerate" p0) [iter] [] p1, ifs, 0⟩] scope pos) (.lce (own.map (·.2)) tg iter' c elt) m (es' ++ (ec ++ ea)) :=
  snd_lce hc nd hg0 hn hst hs htm off ⟨blkOk_by ok, fun s H C cl' fp => (hg s H C cl' fp).canon, ht, fun s H C cl' fp => (he s H C cl' fp).canon, fr, sl⟩ hle hm
end
end CW
/-! x[..][i] = e, where i may draw. -/
namespace CW
open PySem L2
section
variable {X : Cx} {φ : FEnv} {ks : List Kd} {cl : Nat → Addr} {E : L2.St → XK} {rm : Md} {G G0 G1 G2 G' : Addr → Prop} {H H0 H' H1 H2 : Hp} {σ σ1 σ2 : L2.St} {Γ Γ0 Γ1 Γ2 Γ' : Env} {Φ Φ0 Φ1 Φ2 Φ' : Nat → List Addr}
variable {m me mi m1 ma mb ms : Md} {eff eff' es ea eb ec ei ep own w w' wa wb : List Nat} {pos : Pos} {F F' : List Addr} {v : V} {d : D} {vs : List V} {ds outs : List D} {K : PySem.W.Frag} {a b e c i : Expr} {a' b' c' i' ir : CW.E} {path : List CW.E} {st : Stmt} {sts sts' : List Stmt} {s' : S} {ss ss' : List S} {D0 D1 : Ends} {r : SR}
theorem snd_setq {x : Nat} {p : Pos} (hk : kd ks x = .ow) (hm : me.le .ow = true) (hc : noComp e = true) (hpl : plainIx i = true) (hx : x ∉ ei) (ho : me.off (ep ++ ei) = true)
    (he : SndE X φ ks cl E e ir me ea) (hb : SndP X φ ks cl E a x path ep) (hi : SndE X φ ks cl E i i' mi ei) :
    SndS X φ ks cl E rm (.Assign [.Subscript a i p] e pos) (.setq x path i' ir) (ea ++ (ep ++ ei) ++ [x]) [] := by
  obtain ⟨te, pe, qe⟩ := he
  obtain ⟨ta, pa, hp, hxe, qa⟩ := hb
  obtain ⟨ti, pi, qi⟩ := hi
  refine ⟨_, ps_asg pe (pg_sub pa pi set_list (by intro v; cases i <;> first | rfl | cases hpl)) (by unfold swapsWithSole; exact noComp_ok hc _ _ _) (by cases e <;> rfl), fun G H σ Γ Φ D0 I h => ?_⟩
  simp only [evS] at h
  refine qe G H σ Γ Φ _ I ?_
  cases hev : evE φ ir Γ with
  | bad => rw [hev] at h; exact h.elim
  | exc k Γ1 =>
    rw [hev] at h
    exact fun G1 H1 Φ1 I1 s1 => h G1 H1 σ Φ1 I1 (s1.wider fun j hj => List.mem_append_left _ (List.mem_append_left _ hj)) Agr.refl
  | ok d Γ1 =>
    rw [hev, toS_ok] at h
    intro G1 H1 Φ1 w I1 s1 ⟨Fe, r1, o1⟩
    rcases simps_ok (φ := φ) hp Γ1 with ⟨ds, e1⟩ | e1
    rotate_left
    · rw [e1] at h
      exact h.elim
    rw [e1, toS_ok] at h
    rcases lsP_cases (x := x) (ps := ds) Γ1 with ⟨js, t, zs, e5, e4, ez, e6⟩ | e6
    rotate_left
    · rw [e6] at h
      exact h.elim
    rw [e6, toS_ok] at h
    refine qa G1 H1 σ Γ1 Φ1 _ I1 ?_
    rw [atp_path e1 e5 e4 ez]
    intro G2 H2 Φ2 u I2 s2 ⟨v0, f1, f2⟩
    refine qi G2 H2 σ Γ1 Φ2 _ I2 ?_
    cases hei : evE φ i' Γ1 with
    | bad => rw [hei] at h; exact h.elim
    | exc k Γ3 =>
      rw [hei] at h
      exact fun G3 H3 Φ3 I3 s3 => h G3 H3 σ Φ3 I3 (((s1.trans s2).trans s3).wider fun j hj => by
        rcases List.mem_append.mp hj with hj | hj
        · rcases List.mem_append.mp hj with hj | hj
          · exact List.mem_append_left _ (List.mem_append_left _ hj)
          · exact List.mem_append_left _ (List.mem_append_right _ (List.mem_append_left _ hj))
        · exact List.mem_append_left _ (List.mem_append_right _ (List.mem_append_right _ hj))) Agr.refl
    | ok dk Γ3 =>
    rw [hei, toS_ok] at h
    intro G3 H3 Φ3 wk I3 s3 ⟨F, rk, _⟩
    have e4' : get Γ3 x = some t := by rw [get_step s3 hx]; exact e4
    rcases ofo_cases ((toInt dk).bind fun k => (get Γ3 x).bind fun t => setAt t (js ++ [k]) d) Γ3 with ⟨t', et⟩ | et
    rotate_left
    · rw [et] at h
      exact h.elim
    rw [et, toS_ok] at h
    have et' : ((toInt dk).bind fun k => (get Γ3 x).bind fun t => setAt t (js ++ [k]) d) = some t' := by
      generalize (toInt dk).bind (fun k => (get Γ3 x).bind fun t => setAt t (js ++ [k]) d) = o at et
      cases o with
      | none => cases et
      | some o => cases et; rfl
    obtain ⟨k, e7, et'⟩ := Option.bind_eq_some_iff.mp et'
    rw [e4', Option.bind_some] at et'
    have est := et'
    have hw : wk = .int k := by
      have o := rk.own
      cases dk <;> simp only [toInt, reduceCtorEq, Option.some.injEq] at e7
      subst e7
      cases o
      rfl
    subst hw
    have off2 : me.off ep = true ∧ me.off ei = true := by
      cases me <;> first | exact ⟨rfl, rfl⟩ | skip
      simp only [Md.off, Bool.not_eq_true', List.contains_eq_mem, decide_eq_false_iff_not, List.mem_append, not_or] at ho ⊢
      exact ho
    have r3 := (r1.step I1 s2 off2.1).step I2 s3 off2.2
    obtain ⟨oe, te3⟩ : Own X.K NoG H3 Fe w d ∧ Tmp G3 H3 Φ3 Fe := ⟨(r3.el (m' := .ow) hm).1, (r3.el (m' := .ow) hm).2⟩
    obtain ⟨v2, g2, o2⟩ := own_slot I2 hk e4
    rw [f1] at g2
    cases g2
    obtain ⟨kt, kf⟩ := step_keep I2 s3 hx
    have f3 := f2.keep kt o2 kf ez
    obtain ⟨v3, g3, o3⟩ := own_slot I3 hk e4'
    rw [f1] at g3
    cases g3
    obtain ⟨p, xs, j, F3, q1, q2, q3, q4, q5, q6⟩ := Own.set oe o3 (fun q hq hq' => (te3 q hq').2.1 x hq) est
    have eu := f3.uniq q1
    subst eu
    refine ⟨p, xs, k, j, rfl, rfl, q2, q3, ?_⟩
    have hf : (kd ks x).fr = false := by rw [hk]; rfl
    have hxi : x < σ.length := (List.getElem?_eq_some_iff.mp f1).1
    have tm : Tmp G3 (L2.upd H3 p (.lst (xs.set j w))) (pu Φ3 x []) F3 := fun q hq => by
      rcases q6 q hq with hq | hq
      · exact tmp_self (F := Φ3 x) I3 (fun _ h => h) q hq
      · exact tmp_grow te3 q hq
    have s123 := (s1.trans s2).trans s3
    refine h G3 _ _ _ (I3.chgD f1 q4 hxi (by rw [hk]; exact q5) hf (fun h => by rw [hk] at h; cases h) tm) ((chg_step s123 q4 (by rw [q2]; exact fun h => nomatch h) fun q hq => ?_).wider fun y hy => by simpa [List.append_assoc] using hy) Agr.refl
    rcases q6 q hq with hq | hq
    · exact .inl hq
    · refine .inr ?_
      have og : ∀ q ∈ Fe, H q = none ∨ ∃ j ∈ ea, q ∈ Φ j := fun q hq => by
        cases me with
        | im => rw [r1.1] at hq; exact nomatch hq
        | ow => exact o1 rfl q hq
        | _ => cases hm
      rcases og q hq with hq | ⟨l, hl, z⟩
      · exact .inl hq
      · exact .inr ⟨l, List.mem_append_left _ (List.mem_append_left _ hl), z⟩
theorem y_setq (x : Nat) {p : Pos} (he : SndE X φ ks cl E e ir me ea) (hb : SndP X φ ks cl E a x path ep) (hi : SndE X φ ks cl E b b' mi ei) (hk : kd ks x = .ow := by rfl) (hm : me.le .ow = true := by rfl) (hc : noComp e = true := by rfl) (hpl : plainIx b = true := by rfl) (hx : x ∉ ei := by decide) (ho : me.off (ep ++ ei) = true := by rfl) :
    SndS X φ ks cl E rm (.Assign [.Subscript a b p] e pos) (.setq x path b' ir) (ea ++ (ep ++ ei) ++ [x]) [] := snd_setq hk hm hc hpl hx ho he hb hi
theorem snd_asgT2 {es : List Expr} {k : Nat} {p : Pos} {ts : List Tg} (hw : swappedStores [.Tuple es k p] a X.env = pure none) (hc : noComp a = true) (hg : SndG X ks m (.Tuple es k p) (.tup ts)) (ha : SndE X φ ks cl E a a' m ea) :
    SndS X φ ks cl E rm (.Assign [.Tuple es k p] a pos) (.asgT ts a') (ea ++ Tg.slotsL ts) (Tg.slotsL ts) := by
  obtain ⟨t, pa, q⟩ := ha
  obtain ⟨g, pg, qg⟩ := hg
  refine ⟨_, ps_asg pa pg (by unfold swapsWithSole; exact noComp_ok hc _ _ _) hw, fun G H σ Γ Φ D0 I h => ?_⟩
  simp only [evS] at h
  refine q G H σ Γ Φ _ I (h.expr sub_l fun d Γ1 G1 H1 Φ1 v I1 s1 ⟨F, r1, o1⟩ h1 => ?_)
  cases hb : Tg.bind (.tup ts) d Γ1 with
  | none => rw [hb] at h1; exact h1.elim
  | some Γ2 =>
    rw [hb] at h1
    refine qg G1 H1 σ Γ1 Γ2 Φ1 F v d _ I1 r1 hb fun σ' Φ' I' s' ag => h1 G1 H1 σ' Φ' I' (s'.wider ?_) fun j hj => ag j ?_
    · intro i hi
      exact List.mem_append_right _ (by simpa [Tg.slots] using hi)
    · simpa [Tg.slots] using hj
theorem y_asgT2 {es : List Expr} {k : Nat} {p : Pos} {ts : List Tg} (ha : SndE X φ ks cl E a a' ma ea) (hg : SndG X ks ma (.Tuple es k p) (.tup ts)) (hw : swappedStores [.Tuple es k p] a X.env = pure none := by rfl) (hc : noComp a = true := by rfl) :
    SndS X φ ks cl E rm (.Assign [.Tuple es k p] a pos) (.asgT ts a') (ea ++ Tg.slotsL ts) (Tg.slotsL ts) := snd_asgT2 hw hc hg ha
end
end CW
/-! sorted of tuples of one build; the greatest of a list; what stands under a key; values frozen. -/
namespace CW
open PySem L2
/-! ### the order of tuples of one build -/
open PyProof.Rows in
theorem lexI {x y : Int} {l m : List (Int ⊕ List Nat)} (h : x ≠ y) : PyProof.Rows.lexLt itemOrd (Sum.inl x :: l) (Sum.inl y :: m) = decide (x < y) := by
  rw [lex_diff (O := itemOrd) (by intro e; exact h (Sum.inl.inj e))]
  rfl
theorem ltL_same : ∀ {xs a b : List Int}, ltL (xs ++ a) (xs ++ b) = ltL a b
  | [], a, b => rfl
  | x :: xs, a, b => by
    simp only [List.cons_append, ltL, if_true]
    exact ltL_same
theorem ltL_diff : ∀ {xs ys a b : List Int}, xs.length = ys.length → xs ≠ ys → ltL (xs ++ a) (ys ++ b) = ltL xs ys
  | [], [], a, b, _, n => absurd rfl n
  | [], _ :: _, _, _, h, _ => by cases h
  | _ :: _, [], _, _, h, _ => by cases h
  | x :: xs, y :: ys, a, b, h, n => by
    simp only [List.cons_append, ltL]
    by_cases e : x = y
    · rw [if_pos e, if_pos e, ltL_diff (by simpa using h) fun q => n (by rw [e, q])]
    · rw [if_neg e, if_neg e]
mutual
theorem sm_len : ∀ (a b : D), smD a b = true → (flD a).length = (flD b).length
  | .int _, b, h => by cases b <;> simp [smD] at h <;> simp [flD]
  | .tup xs, b, h => by
    cases b <;> simp only [smD, Bool.false_eq_true] at h
    rename_i ys
    simp only [flD]
    exact sms_len xs ys h
  | .non, b, h => by cases b <;> simp [smD] at h
  | .bl _, b, h => by cases b <;> simp [smD] at h
  | .str _, b, h => by cases b <;> simp [smD] at h
  | .lst _, b, h => by cases b <;> simp [smD] at h
  | .scr _, b, h => by cases b <;> simp [smD] at h
  | .dct _ _, b, h => by cases b <;> simp [smD] at h
  | .exn _, b, h => by cases b <;> simp [smD] at h
theorem sms_len : ∀ (a b : List D), smDs a b = true → (flDs a).length = (flDs b).length
  | [], b, h => by cases b <;> simp [smDs] at h <;> simp [flDs]
  | x :: xs, b, h => by
    cases b <;> simp only [smDs, Bool.false_eq_true, Bool.and_eq_true] at h
    rename_i y ys
    simp only [flDs, List.length_append]
    rw [sm_len x y h.1, sms_len xs ys h.2]
end
mutual
theorem sm_lt : ∀ (a b : D) (l m : List (Int ⊕ List Nat)), smD a b = true → (flD a = flD b → PyProof.Rows.lexLt PyProof.Rows.itemOrd (PySem.W.keyToks a.toP ++ l) (PySem.W.keyToks b.toP ++ m) = PyProof.Rows.lexLt PyProof.Rows.itemOrd l m) ∧ (flD a ≠ flD b → PyProof.Rows.lexLt PyProof.Rows.itemOrd (PySem.W.keyToks a.toP ++ l) (PySem.W.keyToks b.toP ++ m) = ltL (flD a) (flD b))
  | .int x, b, l, m, h => by
    cases b <;> simp only [smD, Bool.false_eq_true] at h
    rename_i y
    simp only [D.toP, PySem.W.keyToks, flD, List.cons_append, List.nil_append]
    refine ⟨fun e => ?_, fun e => ?_⟩
    · rw [(List.cons.inj e).1]
      exact PyProof.Rows.lex_self (O := PyProof.Rows.itemOrd) _ _ _
    · have e' : x ≠ y := fun q => e (by rw [q])
      rw [lexI e']
      simp only [ltL]
      rw [if_neg e']
  | .tup xs, b, l, m, h => by
    cases b <;> simp only [smD, Bool.false_eq_true] at h
    rename_i ys
    simp only [D.toP, PySem.W.keyToks, flD]
    exact sms_lt xs ys l m h
  | .non, b, _, _, h => by cases b <;> simp [smD] at h
  | .bl _, b, _, _, h => by cases b <;> simp [smD] at h
  | .str _, b, _, _, h => by cases b <;> simp [smD] at h
  | .lst _, b, _, _, h => by cases b <;> simp [smD] at h
  | .scr _, b, _, _, h => by cases b <;> simp [smD] at h
  | .dct _ _, b, _, _, h => by cases b <;> simp [smD] at h
  | .exn _, b, _, _, h => by cases b <;> simp [smD] at h
theorem sms_lt : ∀ (a b : List D) (l m : List (Int ⊕ List Nat)), smDs a b = true → (flDs a = flDs b → PyProof.Rows.lexLt PyProof.Rows.itemOrd (PySem.W.keyToksAll (D.toPs a) ++ l) (PySem.W.keyToksAll (D.toPs b) ++ m) = PyProof.Rows.lexLt PyProof.Rows.itemOrd l m) ∧ (flDs a ≠ flDs b → PyProof.Rows.lexLt PyProof.Rows.itemOrd (PySem.W.keyToksAll (D.toPs a) ++ l) (PySem.W.keyToksAll (D.toPs b) ++ m) = ltL (flDs a) (flDs b))
  | [], b, l, m, h => by
    cases b <;> simp only [smDs, Bool.false_eq_true] at h
    simp only [D.toPs, PySem.W.keyToksAll, flDs, List.cons_append, List.nil_append]
    exact ⟨fun _ => PyProof.Rows.lex_self (O := PyProof.Rows.itemOrd) _ _ _, fun e => absurd rfl e⟩
  | x :: xs, b, l, m, h => by
    cases b <;> simp only [smDs, Bool.false_eq_true, Bool.and_eq_true] at h
    rename_i y ys
    simp only [D.toPs, PySem.W.keyToksAll, flDs, List.cons_append, List.append_assoc]
    have hl := sm_len x y h.1
    have s0 : ∀ l m, PyProof.Rows.lexLt PyProof.Rows.itemOrd (Sum.inl 1 :: l) (Sum.inl 1 :: m) = PyProof.Rows.lexLt PyProof.Rows.itemOrd l m := fun l m => PyProof.Rows.lex_self (O := PyProof.Rows.itemOrd) _ _ _
    rw [s0]
    obtain ⟨p1, p2⟩ := sm_lt x y (PySem.W.keyToksAll (D.toPs xs) ++ l) (PySem.W.keyToksAll (D.toPs ys) ++ m) h.1
    obtain ⟨q1, q2⟩ := sms_lt xs ys l m h.2
    refine ⟨fun e => ?_, fun e => ?_⟩
    · obtain ⟨e1, e2⟩ := List.append_inj e hl
      rw [p1 e1, q1 e2]
    · by_cases e1 : flD x = flD y
      · have e2 : flDs xs ≠ flDs ys := fun q => e (by rw [e1, q])
        rw [p1 e1, q2 e2, e1, ltL_same]
      · rw [p2 e1, ltL_diff hl e1]
end
theorem ltL_self : ∀ xs : List Int, ltL xs xs = false
  | [] => rfl
  | x :: xs => by rw [ltL, if_pos rfl, ltL_self xs]
theorem sm_data {a b : D} (h : smD a b = true) : PySem.W.dataLt a.toP b.toP = ltL (flD a) (flD b) := by
  obtain ⟨p, q⟩ := sm_lt a b [] [] h
  rw [List.append_nil, List.append_nil] at p q
  unfold PySem.W.dataLt
  by_cases e : flD a = flD b
  · rw [p e, e, ltL_self]
    rfl
  · exact q e
mutual
theorem sm_alike : ∀ (a b : D), smD a b = true → PySem.W.alike a.toP b.toP = true
  | .int _, b, h => by cases b <;> simp [smD] at h <;> simp [D.toP, PySem.W.alike]
  | .tup xs, b, h => by
    cases b <;> simp only [smD, Bool.false_eq_true] at h
    rename_i ys
    simp only [D.toP, PySem.W.alike]
    exact sms_alike xs ys h
  | .non, b, h => by cases b <;> simp [smD] at h
  | .bl _, b, h => by cases b <;> simp [smD] at h
  | .str _, b, h => by cases b <;> simp [smD] at h
  | .lst _, b, h => by cases b <;> simp [smD] at h
  | .scr _, b, h => by cases b <;> simp [smD] at h
  | .dct _ _, b, h => by cases b <;> simp [smD] at h
  | .exn _, b, h => by cases b <;> simp [smD] at h
theorem sms_alike : ∀ (a b : List D), smDs a b = true → PySem.W.alikeAll (D.toPs a) (D.toPs b) = true
  | [], b, h => by simp [D.toPs, PySem.W.alikeAll]
  | x :: xs, b, h => by
    cases b <;> simp only [smDs, Bool.false_eq_true, Bool.and_eq_true] at h
    rename_i y ys
    simp only [D.toPs, PySem.W.alikeAll, Bool.and_eq_true]
    exact ⟨sm_alike x y h.1, sms_alike xs ys h.2⟩
end
mutual
theorem sm_imm : ∀ (a b : D), smD a b = true → a.imm = true
  | .int _, b, h => by simp
  | .tup xs, b, h => by
    cases b <;> simp only [smD, Bool.false_eq_true] at h
    rename_i ys
    rw [imm_tup]
    exact sms_imm xs ys h
  | .non, b, h => by cases b <;> simp [smD] at h
  | .bl _, b, h => by cases b <;> simp [smD] at h
  | .str _, b, h => by cases b <;> simp [smD] at h
  | .lst _, b, h => by cases b <;> simp [smD] at h
  | .scr _, b, h => by cases b <;> simp [smD] at h
  | .dct _ _, b, h => by cases b <;> simp [smD] at h
  | .exn _, b, h => by cases b <;> simp [smD] at h
theorem sms_imm : ∀ (a b : List D), smDs a b = true → a.all D.imm = true
  | [], b, h => rfl
  | x :: xs, b, h => by
    cases b <;> simp only [smDs, Bool.false_eq_true, Bool.and_eq_true] at h
    rename_i y ys
    rw [List.all_cons, Bool.and_eq_true]
    exact ⟨sm_imm x y h.1, sms_imm xs ys h.2⟩
end
end CW
namespace L2
open PySem PySem.Spec PyProof.Rows
def leZ (p q : V × PyData) : Bool := !PySem.W.dataLt q.2 p.2
theorem vals_each {F : Value → V × PyData → Prop} : ∀ {zs : List (V × PyData)} {us : List Value}, Vals (zs.map (·.1)) us → (∀ z ∈ zs, ∀ u, RelV z.1 u → F u z) → PySem.W.EachIs F us zs
  | [], _, h, _ => by cases h; exact .nil
  | z :: zs, _, h, q => by
    rw [List.map_cons] at h
    cases h with
    | cons r t => exact .cons (q z List.mem_cons_self _ r) (vals_each t fun y hy => q y (List.mem_cons_of_mem _ hy))
theorem each_vals : ∀ {zs : List (V × PyData)} {us : List Value}, PySem.W.EachIs (fun u (z : V × PyData) => RelV z.1 u) us zs → Vals (zs.map (·.1)) us
  | _, _, .nil => .nil
  | _, _, .cons r t => by rw [List.map_cons]; exact .cons r (each_vals t)
section
variable {X : Cx}
theorem cr_sortedA (hu : X.A.units + 65 < cLine) : CallR X (.builtin "sorted") (fun vs H Q => ∃ (a : Addr) (zs : List (V × PyData)), vs = [V.ref a] ∧ SqL X.K H a (zs.map (·.1)) ∧ (∀ z ∈ zs, Dp X.K H z.1 z.2) ∧ PySem.W.AllAlike (zs.map (·.2)) ∧ PySem.W.Sortable (zs.map (·.2)) ∧ (∀ z ∈ zs, z.2.depth ≤ 8) ∧
    ∀ p, H p = none → Q (.ref p) (upd H p (.lst ((zs.mergeSort leZ).map (·.1))))) := by
  intro pins s σ H vs us Q I r h
  obtain ⟨a, zs, rfl, hs, hd, hal, hso, h64, q⟩ := h
  obtain ⟨its, rv, hl, hz⟩ := I.list hs
  rw [Vals.ref1 r]
  have hlen : its.length ≤ sizeLine := by rw [← rv.length]; exact hz
  have rd : ∀ (h' : Heap), (∀ b o, s.heap.get? b = some o → h'.get? b = some o) → PySem.W.EachIs (fun v (z : V × PyData) => ∃ as, Reads h' v z.2 as) its zs := fun h' k => vals_each rv fun z m u ru => by
    obtain ⟨as, x⟩ := Dp.reads I z.2 z.1 u (hd z m) ru
    exact ⟨as, Reads.keeps k x⟩
  have mp : ∀ {F : Value → PyData → Prop} {us : List Value} {zs : List (V × PyData)}, PySem.W.EachIs (fun v (z : V × PyData) => F v z.2) us zs → PySem.W.EachIs F us (zs.map (·.2)) := by
    intro F us zs h
    induction h with
    | nil => exact .nil
    | cons r _ ih => exact .cons r ih
  have hk : ∀ b o, s.heap.get? b = some o → (PySem.W.sortingHeap (PySem.W.copyHeap s.heap its) (s.heap.objs.size + 1) its).get? b = some o := fun b o e => PySem.W.sorting_copy_old e
  have e := rd _ hk
  refine PySem.W.sorted_vals (κ := PySem.W.dataKind (PySem.W.sortingHeap (PySem.W.copyHeap s.heap its) (s.heap.objs.size + 1) its) (zs.map (·.2))) hl.isList (PySem.W.SortsAt.data (mp (F := fun v d => ∃ as, Reads _ v d as) e) hal hso fun d hd' => ?_) hlen ?_
  · obtain ⟨z, hz, rfl⟩ := List.mem_map.mp hd'
    have := h64 z hz
    show X.A.units + _ + _ + z.2.depth < cLine
    omega
  · have ke : PySem.W.EachIs (fun v (z : V × PyData) => (PySem.W.dataKind (PySem.W.sortingHeap (PySem.W.copyHeap s.heap its) (s.heap.objs.size + 1) its) (zs.map (·.2))).keyOf v = some (PySem.W.keyToks z.2)) its zs := vals_each rv fun z m u ru => by
      obtain ⟨as, x⟩ := Dp.reads I z.2 z.1 u (hd z m) ru
      exact PySem.W.dataKind_some hal (List.mem_map.mpr ⟨z, m, rfl⟩) (Reads.keeps hk x)
    have ve : PySem.W.EachIs (fun v (z : V × PyData) => RelV z.1 v) its zs := vals_each rv fun z _ u ru => ru
    have oe := PySem.W.sortVals_each (κ := PySem.W.dataKind (PySem.W.sortingHeap (PySem.W.copyHeap s.heap its) (s.heap.objs.size + 1) its) (zs.map (·.2))) (rev := false) (β := V × PyData) (R := fun v z => RelV z.1 v) (fun z : V × PyData => PySem.W.keyToks z.2) ve ke
    have ov : Vals ((zs.mergeSort leZ).map (·.1)) (PySem.W.sortVals (PySem.W.dataKind (PySem.W.sortingHeap (PySem.W.copyHeap s.heap its) (s.heap.objs.size + 1) its) (zs.map (·.2))) false its its) := each_vals oe
    obtain ⟨ep, he'⟩ := PyProof.Rows.sortedAll_at s.heap its (PySem.W.sortVals (PySem.W.dataKind (PySem.W.sortingHeap (PySem.W.copyHeap s.heap its) (s.heap.objs.size + 1) its) (zs.map (·.2))) false its its).toArray
    have hlen' : ((zs.mergeSort leZ).map (·.1)).length ≤ sizeLine := by
      rw [List.length_map, List.length_mergeSort]
      have := rv.length
      rw [List.length_map] at this
      omega
    exact ⟨.ref _, upd H (s.heap.objs.size + 1) (.lst ((zs.mergeSort leZ).map (·.1))), I.laid (t' := s.toks) (fun _ _ => PyProof.Rows.sortedAll_old) (Nat.le_succ _) ⟨hlen', _, ep, ov, he'⟩, rfl, q _ (I.hok.fresh (Nat.le_succ _))⟩
end
end L2
/-! A value of one's own frozen; what stands under a key; the greatest of a list; sorted tuples of one build. -/
namespace CW
open PySem L2
section
variable {X : Cx} {φ : FEnv} {ks : List Kd} {cl : Nat → Addr} {E : L2.St → XK} {G G1 G2 G' : Addr → Prop} {H H0 H' H1 H2 : Hp} {σ : L2.St} {Γ Γ1 Γ2 : Env} {Φ Φ0 Φ1 Φ2 : Nat → List Addr}
variable {a b c e : Expr} {a' b' c' ir : CW.E} {m m' ma mb mc : Md} {eff eff' ea eb ec : List Nat} {pos : Pos} {F F' : List Addr} {v : V} {d : D} {vs : List V} {ds : List D} {K : PySem.W.Frag}
theorem snd_frz (hm : m.tmp = true) (ha : SndE X φ ks cl E a a' m ea) : SndE X φ ks cl E a a' .sh ea := by
  obtain ⟨t, p, q⟩ := ha
  refine ⟨t, p, fun G H σ Γ Φ Q I h => q G H σ Γ Φ Q I ?_⟩
  cases hev : evE φ a' Γ with
  | bad => rw [hev] at h; exact h.elim
  | exc c Γ1 =>
    rw [hev] at h
    exact h
  | ok d Γ1 =>
    rw [hev] at h
    intro G1 H1 Φ1 v I1 s1 ⟨F, r, o⟩
    obtain ⟨ow, t⟩ : Own X.K G1 H1 F v d ∧ Tmp G1 H1 Φ1 F := by
      cases m with
      | ow => exact ⟨r.1.mono NoG.le, r.2⟩
      | os => exact ⟨r.1, r.2.1⟩
      | _ => cases hm
    refine h (fun p => G1 p ∨ p ∈ F) H1 Φ1 v (I1.freeze t) ⟨fun p h => .inl (s1.g p h), fun p h => ?_, s1.kp, s1.fx, s1.fn, s1.ex⟩ ⟨[], ⟨rfl, ow.freeze (fun _ h => .inl h) fun p hp => .inr hp⟩, fun h => nomatch h⟩
    rcases h with h | h
    · exact s1.gn p h
    · exact .inr (o hm p h)
/-! ### under a key -/
theorem own_find {k : List Key} : ∀ {kk : List (List Key)} {us : List V} {ds : List D} {F : List Addr} {z : D}, kk.length = ds.length → OwnL K G H F us ds → ((kk.zip ds).find? fun p => decide (p.1 = k)).map (·.2) = some z → ∃ u F', valV (kk.zip us) k = some u ∧ Own K G H F' u z ∧ ∀ p ∈ F', p ∈ F
  | [], us, ds, F, z, hl, o, h => by simp at h
  | q :: kk, us, [], F, z, hl, o, h => by cases hl
  | q :: kk, us, d :: ds, F, z, hl, o, h => by
    cases o with
    | cons o1 o2 n =>
      rw [List.zip_cons_cons, List.find?_cons] at h
      unfold valV
      rw [List.zip_cons_cons, List.find?_cons]
      by_cases e : q = k
      · simp only [e, decide_true, Option.map_some, Option.some.injEq] at h ⊢
        subst h
        exact ⟨_, _, rfl, o1, fun p hp => List.mem_append_left _ hp⟩
      · simp only [e, decide_false] at h ⊢
        obtain ⟨u, F', h1, h2, h3⟩ := own_find (k := k) (by simpa using hl) o2 h
        exact ⟨u, F', h1, h2, fun p hp => List.mem_append_right _ (h3 p hp)⟩
theorem snd_dget (hu : X.A.units + 1 < cLine) (hp : NoSl b) (ht : ma.tmp = false) (ha : SndE X φ ks cl E a a' ma ea) (hb : SndE X φ ks cl E b b' mb eb) (off : ma.off eb = true) : SndE X φ ks cl E (.Subscript a b pos) (.dget a' b') ma (ea ++ eb) := by
  obtain ⟨ta, pa, qa⟩ := ha
  obtain ⟨tb, pb, qb⟩ := hb
  refine ⟨_, pe_dget hu pa pb hp, fun G H σ Γ Φ Q I h => ?_⟩
  simp only [evE] at h
  refine qa G H σ Γ Φ _ I (h.seq sub_l fun x Γ1 G1 H1 Φ1 v I1 s1 r1 h1 => ?_)
  refine qb G1 H1 σ Γ1 Φ1 _ I1 (h1.seq sub_r fun y Γ2 G2 H2 Φ2 w I2 s2 r2 h2 => ?_)
  obtain ⟨F1, r1, _⟩ := r1
  obtain ⟨F2, r2, _⟩ := r2
  have r1' := r1.step I1 s2 off
  obtain ⟨z, ez, k⟩ := h2.fin (α := Unit) I2
  have noOrg : ∀ F, Org ma (ea ++ eb) H Φ F := fun F t => by
    rw [ht] at t
    cases t
  cases x <;> simp only [getS, reduceCtorEq] at ez
  rename_i kk ds
  obtain ⟨key, e1, e2⟩ := Option.bind_eq_some_iff.mp ez
  obtain ⟨bb, hw, hb2⟩ : ∃ bb, w = .ref bb ∧ H2 bb = some (.tup (key.map kV)) := by
    cases y <;> simp only [keyOf, reduceCtorEq] at e1
    obtain ⟨bb, bs, q1, q2, q3, _⟩ := r2.own.tups
    rw [keysOf_own q3 e1] at q2
    exact ⟨bb, q1, q2⟩
  have nil : ∀ F' : List Addr, (∀ p ∈ F', p ∈ ([] : List Addr)) → F' = [] := fun F' h => List.eq_nil_iff_forall_not_mem.mpr fun q hq => nomatch h q hq
  have fin : ∀ {G : Addr → Prop}, Own X.K G H2 F1 v (.dct kk ds) → ∃ p u F', v = .ref p ∧ DGet H2 p w (some u) ∧ Own X.K G H2 F' u z ∧ ∀ q ∈ F', q ∈ F1 := fun o => by
    obtain ⟨p, us, F', rfl, hpp, ol, lk, sub, _⟩ := o.dcts
    obtain ⟨u, F3, g1, g2, g3⟩ := own_find lk ol e2
    subst hw
    have g0 := DGet.t (H := H2) (a := p) (kvs := kk.zip us) (k := key) hpp hb2
    rw [g1] at g0
    exact ⟨p, u, F3, rfl, g0, g2, fun q hq => sub q (g3 q hq)⟩
  cases ma with
  | im =>
    obtain ⟨rfl, o⟩ := r1'
    obtain ⟨p, u, F', rfl, g, o', s⟩ := fin o
    rw [nil F' s] at o'
    exact ⟨p, u, rfl, g, k H2 _ (fun _ _ h => h) ⟨[], ⟨rfl, o'⟩, noOrg _⟩⟩
  | sh =>
    obtain ⟨rfl, o⟩ := r1'
    obtain ⟨p, u, F', rfl, g, o', s⟩ := fin o
    rw [nil F' s] at o'
    exact ⟨p, u, rfl, g, k H2 _ (fun _ _ h => h) ⟨[], ⟨rfl, o'⟩, noOrg _⟩⟩
  | ow => cases ht
  | os => cases ht
  | rd q =>
    obtain ⟨o, sb⟩ := r1'
    obtain ⟨p, u, F', rfl, g, o', s⟩ := fin o
    exact ⟨p, u, rfl, g, k H2 _ (fun _ _ h => h) ⟨F', ⟨o', fun q hq => sb q (s q hq)⟩, noOrg _⟩⟩
/-! ### the greatest -/
theorem maxI_mem : ∀ {ns : List Int} {m : Int}, maxI ns = some m → m ∈ ns ∧ ∀ y ∈ ns, y ≤ m
  | [], m, h => by cases h
  | n :: ns, m, h => by
    have key : ∀ (ns : List Int) (n : Int), (ns.foldl (fun a b => if a < b then b else a) n = n ∨ ns.foldl (fun a b => if a < b then b else a) n ∈ ns) ∧ n ≤ ns.foldl (fun a b => if a < b then b else a) n ∧ ∀ y ∈ ns, y ≤ ns.foldl (fun a b => if a < b then b else a) n := by
      intro ns
      induction ns with
      | nil => intro n; exact ⟨.inl rfl, Int.le_refl _, fun _ h => nomatch h⟩
      | cons b ns ih =>
        intro n
        rw [List.foldl_cons]
        obtain ⟨i1, i2, i3⟩ := ih (if n < b then b else n)
        have hb : n ≤ (if n < b then b else n) ∧ b ≤ (if n < b then b else n) := by split <;> omega
        refine ⟨?_, by omega, fun y hy => ?_⟩
        · rcases i1 with q | q
          · rw [q]
            split
            · exact .inr List.mem_cons_self
            · exact .inl rfl
          · exact .inr (List.mem_cons_of_mem _ q)
        · rcases List.mem_cons.mp hy with rfl | hy
          · omega
          · exact i3 y hy
    simp only [maxI, Option.some.injEq] at h
    obtain ⟨i1, i2, i3⟩ := key ns n
    rw [h] at i1 i2 i3
    refine ⟨?_, fun y hy => ?_⟩
    · rcases i1 with q | q
      · rw [q]; exact List.mem_cons_self
      · exact List.mem_cons_of_mem _ q
    · rcases List.mem_cons.mp hy with rfl | hy
      · exact i2
      · exact i3 y hy
theorem maxI_is {ns : List Int} {m m' : Int} (h : maxI ns = some m) (h1 : m' ∈ ns) (h2 : ∀ y ∈ ns, y ≤ m') : m' = m := by
  obtain ⟨a, b⟩ := maxI_mem h
  have := b m' h1
  have := h2 m a
  omega
theorem snd_mx {p : Pos} (hc : X.calm = true) (hg : Gl X "max") (hn : X.mg "max" = none) (hs : noStar a = true) (ha : SndE X φ ks cl E a a' ma ea) : SndE X φ ks cl E (.Call (.Name "max" p) [a] [] pos) (.mx a') .im ea := by
  obtain ⟨ta, pa, qa⟩ := ha
  refine ⟨_, pe_callB (cr_max hc) hg hn (by decide +kernel) (pa_cons pa pa_nil (noStar_ok hs _)) (he := noStar_ok hs _), fun G H σ Γ Φ Q I h => ?_⟩
  simp only [evE] at h
  refine qa G H σ Γ Φ _ I (h.seq sub_all fun x Γ1 G1 H1 Φ1 v I1 s1 r1 h1 => ?_)
  obtain ⟨F1, r1, _⟩ := r1
  cases x <;> first | exact h1.elim | skip
  rename_i xs
  obtain ⟨p, us, F', rfl, hp, o1, f1, l1⟩ := r1.own.seq
  simp only [maxD] at h1
  cases hi : intsOf xs with
  | none => rw [hi] at h1; exact h1.elim
  | some ns =>
    rw [hi, Option.bind_some] at h1
    cases hmx : maxI ns with
    | none => rw [hmx] at h1; exact h1.elim
    | some m =>
      rw [hmx] at h1
      have e1 := o1.ints hi
      refine ⟨p, ns, rfl, by rw [← e1]; exact SqL.of hp, ?_, fun m' q1 q2 => ?_⟩
      · cases ns with
        | nil => cases hmx
        | cons _ _ => exact Nat.succ_pos _
      · rw [maxI_is hmx q1 q2]
        exact DenR.here h1 I1 (rel_im .int)
/-! ### sorted -/
theorem OwnL.of_im : ∀ {zs : List (V × D)}, (∀ z ∈ zs, Own K G H [] z.1 z.2) → OwnL K G H [] (zs.map (·.1)) (zs.map (·.2))
  | [], _ => .nil
  | z :: zs, h => .cons0 (h z List.mem_cons_self) (OwnL.of_im fun y hy => h y (List.mem_cons_of_mem _ hy))
theorem own_zip : ∀ {us : List V} {ds : List D}, OwnL K G H [] us ds → ∀ z ∈ us.zip ds, Own K G H [] z.1 z.2
  | us, [], _, z, hz => by simp at hz
  | us, d :: ds, o, z, hz => by
    obtain ⟨u, us', rfl, h1, h2⟩ := o.uncons0
    rw [List.zip_cons_cons] at hz
    rcases List.mem_cons.mp hz with rfl | hz
    · exact h1
    · exact own_zip h2 z hz
theorem snd_srt {p : Pos} (hu : X.A.units + 65 < cLine) (hg : Gl X "sorted") (hn : X.mg "sorted" = none) (hs : noStar a = true) (ha : SndE X φ ks cl E a a' ma ea) : SndE X φ ks cl E (.Call (.Name "sorted" p) [a] [] pos) (.srt a') .ow ea := by
  obtain ⟨ta, pa, qa⟩ := ha
  refine ⟨_, pe_callB (cr_sortedA hu) hg hn (by decide +kernel) (pa_cons pa pa_nil (noStar_ok hs _)) (he := noStar_ok hs _), fun G H σ Γ Φ Q I h => ?_⟩
  simp only [evE] at h
  refine qa G H σ Γ Φ _ I (h.seq sub_all fun x Γ1 G1 H1 Φ1 v I1 s1 r1 h1 => ?_)
  obtain ⟨F1, r1, _⟩ := r1
  cases x <;> first | exact h1.elim | skip
  rename_i xs
  obtain ⟨p, us, F', rfl, hp, o1, f1, l1⟩ := r1.own.seq
  simp only [srtD] at h1
  split at h1
  rotate_left 1
  · exact h1.elim
  rename_i hcnd
  have cnd : ∀ d ∈ xs, neT d = true ∧ d.shp 8 = true ∧ ∀ d' ∈ xs, smD d d' = true := fun d hd => by
    have := List.all_eq_true.mp hcnd d hd
    simp only [Bool.and_eq_true, List.all_eq_true] at this
    exact ⟨this.1.1, this.1.2, this.2⟩
  have him : xs.all D.imm = true := List.all_eq_true.mpr fun d hd => sm_imm d d ((cnd d hd).2.2 d hd)
  obtain ⟨ef, o2⟩ := o1.immut him
  subst ef
  have hl : us.length = xs.length := o1.len
  have oz := own_zip o2
  have e1 : (us.zip xs).map (·.1) = us := List.map_fst_zip (by omega)
  have e2 : (us.zip xs).map (·.2) = xs := List.map_snd_zip (by omega)
  have mz : ∀ z ∈ us.zip xs, z.2 ∈ xs := fun z hz => (List.of_mem_zip hz).2
  refine ⟨p, (us.zip xs).map fun z => (z.1, z.2.toP), rfl, ?_, ?_, ?_, ?_, ?_, ?_⟩
  · rw [List.map_map, show ((fun x : V × PyData => x.1) ∘ fun z : V × D => (z.1, z.2.toP)) = (·.1) from rfl, e1]
    exact SqL.of hp
  · intro z hz
    obtain ⟨y, hy, rfl⟩ := List.mem_map.mp hz
    exact (oz y hy).dp (cnd y.2 (mz y hy)).2.1
  · intro d hd d' hd'
    obtain ⟨y, hy, rfl⟩ := List.mem_map.mp hd
    obtain ⟨y', hy', rfl⟩ := List.mem_map.mp hd'
    obtain ⟨x, hx, rfl⟩ := List.mem_map.mp hy
    obtain ⟨x', hx', rfl⟩ := List.mem_map.mp hy'
    exact sm_alike _ _ ((cnd x.2 (mz x hx)).2.2 _ (mz x' hx'))
  · refine .inl fun d hd => ?_
    obtain ⟨y, hy, rfl⟩ := List.mem_map.mp hd
    obtain ⟨x, hx, rfl⟩ := List.mem_map.mp hy
    have := (cnd x.2 (mz x hx)).1
    revert this
    cases x.2 <;> simp only [neT, Bool.false_eq_true, false_imp_iff]
    rename_i l
    cases l
    · simp [neT]
    · intro _
      exact ⟨_, _, by simp only [D.toP, D.toPs]; rfl⟩
  · intro z hz
    obtain ⟨y, hy, rfl⟩ := List.mem_map.mp hz
    have := (shp_can y.2 8 (cnd y.2 (mz y hy)).2.1).2
    exact this
  · have es : ((us.zip xs).map fun z => (z.1, z.2.toP)).mergeSort L2.leZ = ((us.zip xs).mergeSort fun p q => leA p.2 q.2).map fun z => (z.1, z.2.toP) := by
      refine (PySem.W.sort_maps (fun z : V × D => (z.1, z.2.toP)) fun y hy y' hy' => ?_).symm
      unfold leA L2.leZ
      rw [sm_data ((cnd y'.2 (mz y' hy')).2.2 _ (mz y hy))]
    have es2 : ((us.zip xs).mergeSort fun p q => leA p.2 q.2).map (·.2) = xs.mergeSort leA := by
      rw [PySem.W.sort_maps (s := leA) (fun z : V × D => z.2) fun _ _ _ _ => rfl, e2]
    rw [es, List.map_map]
    refine mk_fin (vs := ((us.zip xs).mergeSort fun p q => leA p.2 q.2).map (·.1)) (ck := true) (B := true) I1 (fun q hq => s1.ex q hq) h1 rfl ?_ rfl (by rw [List.length_mergeSort]; exact l1)
    rw [← es2]
    exact ((OwnL.of_im fun z hz => oz z ((List.mergeSort_perm _ _).mem_iff.mp hz)).mono NoG.le).els fun _ => rfl
end
end CW
/-! list(d.values()), dict(pairs). -/
namespace L2
open PySem PySem.Spec PyProof.Rows
/-- a view of the values of the dict at d -/
def VwO (p d : Addr) : HO := .ext fun h => h.get? p = some { cls := .type "dict_values", data := .fields #[.ref d] }
theorem vwO_ok {P : Program} {w : World} {H : Hp} {h : Heap} {p d : Addr} (e : h.get? p = some { cls := .type "dict_values", data := .fields #[.ref d] }) : ObjOk P w H h p (VwO p d) := ⟨e, ⟨_, e⟩, fun h1 h2 q k => k _ q⟩
section
variable {X : Cx}
theorem mt_values : MtR X "dict.values" (fun x xs H Q => ∃ (a : Addr) (kvs : List (List Key × V)), x = .ref a ∧ xs = [] ∧ Rd H a (.dT kvs) ∧ ∀ p, H p = none → Q (.ref p) (upd H p (VwO p a))) := by
  intro pins s σ H x xs v us Q I rx rv h
  obtain ⟨a, kvs, rfl, rfl, hd, q⟩ := h
  cases rx
  have hus := rv.zero
  subst hus
  obtain ⟨z, hs, ks, pr, o, es, ep, ho, hx, hdt, he, hn⟩ := (show ObjOk X.prog X.w H s.heap a (.dT kvs) from hd.ok I.hok)
  have hT : s.TypeIs (.ref a) "dict" := ⟨o, ho, hx.1⟩
  refine wpAny_call_entry PySem.F.slot_dict_values hT PySem.F.entry_dict_values ?_ (PySem.F.args_dict_values_1 _)
  unfold Builtin.«dict.values»
  refine wpAny_bind ?_
  unfold Builtin.Dict.noArgs
  refine wpAny_bind (wpAny_notOrdered_dict hT ?_)
  show wpAny _ _ (pure a) _ _ s
  refine wpAny_pure ?_
  show wpAny _ _ (Builtin.Dict.showsAll a >>= _) _ _ s
  unfold Builtin.Dict.showsAll
  rw [if_neg (by rw [hs]; exact Bool.false_ne_true)]
  refine wpAny_bind (wpAny_pure ?_)
  refine wpAny_bind (wpAny_newObj_type (wpAny_pure ⟨_, rfl, ?_⟩))
  exact ⟨.ref s.heap.objs.size, _, I.laid (t' := s.toks) (o := VwO s.heap.objs.size a) (fun b u e => Heap.get?_push_of_some _ e) (Nat.le_refl _) (vwO_ok (Heap.get?_push_size _ rfl)), rfl, q _ (I.hok.fresh (Nat.le_refl _))⟩
theorem call_list_vw (hc : X.calm = true) : CallR X (.type "list") (fun xs H Q => ∃ (p d : Addr) (kvs : List (List Key × V)), xs = [V.ref p] ∧ H p = some (VwO p d) ∧ Rd H d (.dT kvs) ∧ ∀ l, H l = none → Q (.ref l) (upd H l (.lst (kvs.map (·.2))))) := by
  intro pins s σ H xs us Q I r h
  obtain ⟨p, d, kvs, rfl, hp, hd, q⟩ := h
  obtain ⟨u, rfl, rx⟩ := r.one
  cases rx
  obtain ⟨z, hs, ks, pr, o, es, ep, ho, hx, hdt, he, hn⟩ := (show ObjOk X.prog X.w H s.heap d (.dT kvs) from hd.ok I.hok)
  have hv : s.heap.get? p = some { cls := .type "dict_values", data := .fields #[.ref d] } := (show ObjOk X.prog X.w H s.heap p (VwO p d) from I.hok p _ hp).1
  have l1 : es.size = ks.length := size_of_entries he
  have l2 : kvs.length = ks.length := Paired.length pr
  refine PySem.W.kdl_call (KdlSrc.rawValues (r := p) (d := d) (es := es) (ep := ep)) (I.ok.hd hc) ⟨⟨_, hv, rfl, rfl⟩, ⟨o, ho, hx, hdt⟩⟩ (by omega) fun h' tk acc' c' kp e it => ?_
  have ea : acc'.toList = ks.map fun x => x.2.2 := by
    have hl : acc'.toList.length = ks.length := by rw [Array.length_toList, it.1]; exact l1
    apply List.ext_getElem?
    intro j
    rw [List.getElem?_map]
    cases hj : acc'.toList[j]? with
    | none =>
      have h1 := List.getElem?_eq_none_iff.mp hj
      rw [List.getElem?_eq_none (by omega)]
      all_goals rfl
    | some v =>
      obtain ⟨hi, hv⟩ := it.2 j v (by rw [← Array.getElem?_toList]; exact hj)
      have qe := entry_at he j
      rw [Array.getElem?_eq_getElem hi] at qe
      cases hb : ks[j]? with
      | none =>
        rw [hb] at qe
        exact nomatch (show some _ = none from qe)
      | some b =>
        rw [hb] at qe
        have e2 : es[j] = entryOfKey (tupleKind (mixKind X.prog X.w)) b := Option.some.inj qe
        rw [hv, e2]
        all_goals rfl
  have vv : ∀ {kvs : List (List Key × V)} {ks : List (List Key × Addr × Value)}, Paired (fun (p : List Key × V) (q : List Key × Addr × Value) => p.1 = q.1 ∧ H q.2.1 = some (.tup (p.1.map kV)) ∧ RelV p.2 q.2.2) kvs ks → Vals (kvs.map (·.2)) (ks.map fun x => x.2.2) := by
    intro kvs ks r
    induction r with
    | nil => exact .nil
    | cons h _ ih => rw [List.map_cons, List.map_cons]; exact .cons h.2.2 ih
  have rv : Vals (kvs.map (·.2)) acc'.toList := by rw [ea]; exact vv pr
  have hz : (kvs.map (·.2)).length ≤ sizeLine := by rw [List.length_map]; omega
  refine ⟨.ref s.heap.objs.size, _, I.laid (t' := tk) (o := .lst (kvs.map (·.2))) kp (Nat.le_refl _) ?_, rfl, q _ (I.hok.fresh (Nat.le_refl _))⟩
  exact ⟨hz, acc'.toList, c', rv, by rw [Array.toArray_toList]; exact e⟩
theorem pairs_read {pins : List (Addr × Obj)} {σ : St} {H : Hp} {s : Shared} (I : Inv X pins σ H s) : ∀ {us : List V} {kvs : List (List Key × V)} {its : List Value}, Paired (fun (u : V) (p : List Key × V) => ∃ t kb, u = .ref t ∧ H t = some (.tup [.ref kb, p.2]) ∧ H kb = some (.tup (p.1.map kV))) us kvs → Vals us its →
    ∃ (ts : List Addr) (ps : List (List Key × Addr × Value)), its = ts.map Value.ref ∧ ts.length = ps.length ∧ Paired (fun (p : List Key × V) (q : List Key × Addr × Value) => p.1 = q.1 ∧ H q.2.1 = some (.tup (p.1.map kV)) ∧ RelV p.2 q.2.2) kvs ps ∧ ∀ (j : Nat) t q, ts[j]? = some t → ps[j]? = some q → PairAt s.heap t (.ref q.2.1) q.2.2
  | _, _, _, .nil, .nil => ⟨[], [], rfl, rfl, .nil, fun j t q h => by simp at h⟩
  | _, _, _, .cons (b := p0) h t, .cons r rs => by
    obtain ⟨ts, ps, e1, e2, e3, e4⟩ := pairs_read I t rs
    obtain ⟨t0, kb, rfl, h1, h2⟩ := h
    cases r
    obtain ⟨_, its2, r2, o, ho, hcl, n, hdd⟩ := I.hok _ _ h1
    obtain ⟨u1, u2, rfl, ri, rj⟩ := vals2 r2
    cases ri
    refine ⟨t0 :: ts, (p0.1, kb, u2) :: ps, by rw [e1]; rfl, by rw [List.length_cons, List.length_cons, e2], .cons ⟨rfl, h2, rj⟩ e3, fun j t q a b => ?_⟩
    cases j with
    | zero =>
      cases a
      cases b
      exact .inl ⟨o, ho, hcl, n, hdd⟩
    | succ j => exact e4 j t q (by simpa using a) (by simpa using b)
theorem call_dictOf (hc : X.calm = true) (hu : X.A.units + 3 < cLine) : CallR X (.type "dict") (fun xs H Q => ∃ (a : Addr) (us : List V) (kvs : List (List Key × V)), xs = [V.ref a] ∧ SqL X.K H a us ∧ Paired (fun (u : V) (p : List Key × V) => ∃ t kb, u = .ref t ∧ H t = some (.tup [.ref kb, p.2]) ∧ H kb = some (.tup (p.1.map kV))) us kvs ∧ (kvs.map (·.1)).Nodup ∧
    ∀ d, H d = none → Q (.ref d) (upd H d (.dT kvs))) := by
  intro pins s σ H xs us0 Q I r h
  obtain ⟨a, us, kvs, rfl, hs, hp, hnd, q⟩ := h
  obtain ⟨u, rfl, rx⟩ := r.one
  cases rx
  obtain ⟨its, rv, ⟨o, n, ho, hcl, hdn, hdt⟩, hz⟩ := I.list hs
  obtain ⟨ts, ps, e1, e2, e3, e4⟩ := pairs_read I hp rv
  have l1 : ps.length = kvs.length := (Paired.length e3).symm
  have l2 : us.length = kvs.length := Paired.length hp
  have hnd2 : (ps.map (·.1)).Nodup := by
    have e : ∀ {kvs : List (List Key × V)} {ps : List (List Key × Addr × Value)}, Paired (fun (p : List Key × V) (q : List Key × Addr × Value) => p.1 = q.1 ∧ H q.2.1 = some (.tup (p.1.map kV)) ∧ RelV p.2 q.2.2) kvs ps → ps.map (·.1) = kvs.map (·.1) := by
      intro kvs ps r
      induction r with
      | nil => rfl
      | cons h _ ih => rw [List.map_cons, List.map_cons, ih, h.1]
    rw [e e3]
    exact hnd
  have hps : ∀ x ∈ ps, H x.2.1 = some (.tup (x.1.map kV)) := fun x hx => by
    obtain ⟨p, h1, h2, _⟩ := Paired.right e3 x hx
    rw [← h1]
    exact h2
  have hok : PlainSeq "list" s.heap a its.toArray ∧ PairItems s.heap its.toArray (fun j => ts.getD j 0) (ps.map fun q => (Value.ref q.2.1, q.2.2)) := by
    refine ⟨⟨o, n, ho, hcl, hdn, hdt⟩, by rw [List.size_toArray, e1, List.length_map, List.length_map, e2], fun j k v hj => ?_⟩
    rw [List.getElem?_map] at hj
    obtain ⟨x, hx, ex⟩ := Option.map_eq_some_iff.mp hj
    cases ex
    have hjl : j < ts.length := by rw [e2]; exact (List.getElem?_eq_some_iff.mp hx).1
    have et : ts[j]? = some ts[j] := List.getElem?_eq_getElem hjl
    have eg : ts.getD j 0 = ts[j] := by rw [List.getD_eq_getElem?_getD, et]; rfl
    refine ⟨?_, ?_⟩
    · show its.toArray[j]? = some (Value.ref (ts.getD j 0))
      rw [eg, List.getElem?_toArray, e1, List.getElem?_map, et]
      rfl
    · show PairAt s.heap (ts.getD j 0) _ _
      rw [eg]
      exact e4 j _ _ et hx
  refine call_dict_pairsH (knd := tupleKind (mixKind X.prog X.w)) (ps := ps) (PairArg.list a its.toArray (fun j => ts.getD j 0) (ps.map fun q => (Value.ref q.2.1, q.2.2))) (I.ok.hd hc) (tupleKind_room_in1 (by show X.A.units + 1 + 1 < cLine; omega)) hok ⟨(List.length_map _).symm, fun i key v hr => ?_⟩ (fun h' kp x hx => ?_) (by rw [List.length_map]; omega) fun h' tk hd' kp => ?_
  · have hr' : (ps.map fun q => (Value.ref q.2.1, q.2.2))[i]? = some (key, v) := hr
    rw [List.getElem?_map] at hr'
    obtain ⟨x, hx, ex⟩ := Option.map_eq_some_iff.mp hr'
    cases ex
    exact ⟨x.1, x.2.1, hx, rfl⟩
  · obtain ⟨ob, vs, n, g1, g2, g3, g4⟩ := key_of (P := X.prog) (w := X.w) I.hok (hps x hx)
    exact ⟨ob, vs, n, kp _ _ (Nat.ne_of_lt (Heap.lt_size g1)) (fun h => nomatch h) g1, g2, g3, g4⟩
  · rw [storedAllH_nil_of_nodup ps hnd2] at hd'
    obtain ⟨od, es, ep, g1, g2, g3, g4, g5, g6⟩ := hd'
    have kp' : ∀ b u, s.heap.get? b = some u → h'.get? b = some u := fun b u e => kp b u (fun h => nomatch h) e
    have hnew : H s.heap.objs.size = none := I.hok.fresh (Nat.le_refl _)
    have hsys : (s.heap.objs.size == sysModules) = false := beq_eq_false_iff_ne.mpr (Ne.symm (Nat.ne_of_lt I.big))
    exact ⟨.ref s.heap.objs.size, _, I.laid (t' := tk) (o := .dT kvs) kp' (Nat.le_refl _) ⟨by omega, hsys, ps, e3.mono fun p x hh => ⟨hh.1, by rw [upd_ne (ne_of_none hh.2.1 hnew)]; exact hh.2.1, hh.2.2⟩, od, es, ep, g1, g2, g3, g4, g6⟩, rfl, q _ hnew⟩
end
end L2
/-! Dicts of pairs, their values, dicts deep within; loops over numbered lists. -/
namespace CW
open PySem L2
section
variable {X : Cx} {φ : FEnv} {ks : List Kd} {cl : Nat → Addr} {E : L2.St → XK} {rm : Md} {G G0 G1 G2 G' : Addr → Prop} {H H0 H' H1 H2 : Hp} {σ σ1 σ2 : L2.St} {Γ Γ0 Γ1 Γ2 Γ' : Env} {Φ Φ0 Φ1 Φ2 Φ' : Nat → List Addr}
variable {m me mi m1 ma mb mc ms : Md} {eff eff' es ea eb ec ei ep own w w' wa wb : List Nat} {pos : Pos} {F F' F3 : List Addr} {v : V} {d : D} {vs : List V} {ds outs : List D} {K : PySem.W.Frag} {a b e c i : Expr} {a' b' c' i' ir iter' : CW.E} {path : List CW.E} {st : Stmt} {sts sts' : List Stmt} {s' : S} {ss ss' : List S} {D0 D1 : Ends} {r : SR} {W : Addr → Prop} {x : Str} {tg : Tg} {iter tgE : Expr}
theorem DenR.grow {α β : Type} {rel : (Addr → Prop) → Hp → (Nat → List Addr) → α → β → Prop} {r : R α} {Q : β → Hp → Prop} (h : DenR X ks cl E eff rel r G H σ Γ Φ Q) (ex : ∀ p o, H p = some o → H' p = some o) : DenR X ks cl E eff rel r G H' σ Γ Φ Q := by
  have tr : ∀ {G2 H2 Φ2 Γ2}, Step eff G H' Φ Γ G2 H2 Φ2 Γ2 → Step eff G H Φ Γ G2 H2 Φ2 Γ2 := fun s => ((Step.grow ex).trans s).wider fun i hi => by simpa using hi
  cases r with
  | ok d Γ' => exact fun G2 H2 Φ2 v I' s' r' => h G2 H2 Φ2 v I' (tr s') r'
  | exc c Γ' => exact fun G2 H2 Φ2 I' s' => h G2 H2 Φ2 I' (tr s')
  | bad => exact h.elim
/-! ### list(d.values()) -/
theorem snd_dvl {p ap mp : Pos} (hc : X.calm = true) (hg : Gl X "list") (hn : X.mg "list" = none) (hab : attributeBase a "values" X.env (eval a X.env) = eval a X.env) (hl : (ap.endLine == mp.line) = true) (ha : SndE X φ ks cl E a a' ma ea) :
    SndE X φ ks cl E (.Call (.Name "list" p) [.Call (.Attribute a "values" ap) [] [] mp] [] pos) (.dvl a') .ow ea := by
  obtain ⟨ta, pa, qa⟩ := ha
  refine ⟨_, pe_callTy (L2.call_list_vw hc) hg hn (by decide +kernel) (pa_cons (pe_bm0 PySem.F.plainAttrs_dict PySem.F.slot_dict_values PySem.F.type_dict_values L2.mt_values pa hab hl) pa_nil (noStar_ok rfl _)) (he := noStar_ok rfl _), fun G H σ Γ Φ Q I h => ?_⟩
  simp only [evE] at h
  refine qa G H σ Γ Φ _ I (h.seq sub_all fun x Γ1 G1 H1 Φ1 v I1 s1 r1 h1 => ?_)
  obtain ⟨F1, r1, _⟩ := r1
  cases x <;> first | exact h1.elim | skip
  rename_i kk zs
  obtain ⟨p, us, F', rfl, hp, o1, lk, f1, l1⟩ := r1.own.dcts
  simp only [dvlD] at h1
  have hp' : H1 p = some (.dT (kk.zip us)) := hp
  refine ⟨.inr (.inr (.inl ⟨rfl, .inr ⟨_, hp'⟩⟩)), p, kk.zip us, rfl, rfl, .inl hp, fun q hq => ?_⟩
  have ex := upd_ex (o := L2.VwO q p) hq
  have e1 : (kk.zip us).map (·.2) = us := List.map_snd_zip (by rw [o1.len]; omega)
  refine ⟨q, p, kk.zip us, rfl, upd_same, .inl (ex _ _ hp), ?_⟩
  rw [e1]
  have o2 := o1.ex ex
  exact mk_fin (B := false) (I1.grow ex) (fun q' hq' => s1.ex q' (by
    cases e : H1 q' with
    | none => rfl
    | some o => rw [ex _ _ e] at hq'; cases hq')) (h1.grow ex) rfl (o2.els fun t => nomatch t) rfl l1
/-! ### dict(pairs) -/
theorem kv_own : ∀ {us : List V} {ds : List D} {kv : List (List Key × D)}, OwnL K G H [] us ds → kvOf ds = some kv →
    ∃ kvs : List (List Key × V), Paired (fun (u : V) (p : List Key × V) => ∃ t kb, u = .ref t ∧ H t = some (.tup [.ref kb, p.2]) ∧ H kb = some (.tup (p.1.map kV))) us kvs ∧ kvs.map (·.1) = kv.map (·.1) ∧ OwnL K G H [] (kvs.map (·.2)) (kv.map (·.2))
  | us, [], kv, o, h => by
    simp only [kvOf, Option.some.injEq] at h
    subst h
    cases us with
    | nil => exact ⟨[], .nil, rfl, .nil⟩
    | cons _ _ => exact absurd o.len (by simp)
  | us, d :: ds, kv, o, h => by
    obtain ⟨u, us', rfl, o1, o2⟩ := o.uncons0
    unfold kvOf at h
    split at h
    · cases ‹_ = []›
    · rename_i k z r0 e0
      cases e0
      obtain ⟨q, e1, h⟩ := Option.bind_eq_some_iff.mp h
      obtain ⟨kv', e2, e3⟩ := Option.map_eq_some_iff.mp h
      subst e3
      obtain ⟨kvs, a1, a2, a3⟩ := kv_own o2 e2
      obtain ⟨t, vs, rfl, ht, ol, _⟩ := o1.tups
      obtain ⟨uk, vs', rfl, ok, ol⟩ := ol.uncons0
      obtain ⟨uv, vs'', rfl, ov, ol⟩ := ol.uncons0
      have : vs'' = [] := List.length_eq_zero_iff.mp ol.len
      subst this
      obtain ⟨kb, rfl, hb⟩ : ∃ kb, uk = .ref kb ∧ H kb = some (.tup (q.map kV)) := by
        cases k <;> simp only [keyOf, reduceCtorEq] at e1
        obtain ⟨bb, bs, q1, q2, q3, _⟩ := ok.tups
        rw [keysOf_own q3 e1] at q2
        exact ⟨bb, q1, q2⟩
      exact ⟨(q, uv) :: kvs, .cons ⟨t, kb, rfl, ht, hb⟩ a1, by rw [List.map_cons, List.map_cons, a2], by rw [List.map_cons, List.map_cons]; exact .cons0 ov a3⟩
    · cases h
theorem zip_unzip {α β : Type} : ∀ l : List (α × β), (l.map (·.1)).zip (l.map (·.2)) = l
  | [] => rfl
  | x :: l => by rw [List.map_cons, List.map_cons, List.zip_cons_cons, zip_unzip l]
theorem kvOf_len : ∀ {ds : List D} {kv : List (List Key × D)}, kvOf ds = some kv → kv.length = ds.length
  | [], kv, h => by
    simp only [kvOf, Option.some.injEq] at h
    subst h
    rfl
  | d :: ds, kv, h => by
    unfold kvOf at h
    split at h
    · cases ‹_ = []›
    · rename_i k z r0 e0
      cases e0
      obtain ⟨q, e1, h⟩ := Option.bind_eq_some_iff.mp h
      obtain ⟨kv', e2, e3⟩ := Option.map_eq_some_iff.mp h
      subst e3
      rw [List.length_cons, List.length_cons, kvOf_len e2]
    · cases h
theorem snd_dof {p : Pos} (hc : X.calm = true) (hu : X.A.units + 3 < cLine) (hg : Gl X "dict") (hn : X.mg "dict" = none) (hs : noStar a = true) (hb : ma.bare = true) (ha : SndE X φ ks cl E a a' ma ea) :
    SndE X φ ks cl E (.Call (.Name "dict" p) [a] [] pos) (.dof a') .os ea := by
  obtain ⟨ta, pa, qa⟩ := ha
  refine ⟨_, pe_callTy (L2.call_dictOf hc hu) hg hn (by decide +kernel) (pa_cons pa pa_nil (noStar_ok hs _)) (he := noStar_ok hs _), fun G H σ Γ Φ Q I h => ?_⟩
  simp only [evE] at h
  refine qa G H σ Γ Φ _ I (h.seq sub_all fun x Γ1 G1 H1 Φ1 v I1 s1 r1 h1 => ?_)
  obtain ⟨F1, r1, _⟩ := r1
  cases x <;> first | exact h1.elim | skip
  rename_i xs
  have hF : F1 = [] := r1.bare hb
  subst hF
  obtain ⟨p, us, F', rfl, hp, o1, f1, l1⟩ := r1.own.seq
  have hF' : F' = [] := nil_of f1 rfl
  subst hF'
  simp only [dofD] at h1
  cases hk : kvOf xs with
  | none => rw [hk] at h1; exact h1.elim
  | some kv =>
    rw [hk, Option.bind_some] at h1
    split at h1
    rotate_left 1
    · exact h1.elim
    rename_i hnd
    obtain ⟨kvs, a1, a2, a3⟩ := kv_own o1 hk
    refine ⟨p, us, kvs, rfl, SqL.of hp, a1, by rw [a2]; exact hnd, fun q hq => ?_⟩
    have ex := upd_ex (o := HO.dT kvs) hq
    have ll := kvOf_len hk
    refine h1 G1 _ Φ1 _ (I1.grow ex) ((Step.grow ex).wider fun _ h => nomatch h) ⟨[q], ⟨.dct (ks := kv.map (·.1)) (vs := kvs.map (·.2)) ?_ (by rw [List.length_map, List.length_map]) (a3.ex ex) (fun h => nomatch h) (by rw [List.length_map]; omega), fresh_tmp I1 hq, fun h => nomatch h⟩, fun _ x hx => .inl ?_⟩
    · rw [upd_same, ← a2, zip_unzip]
    · rw [List.mem_singleton.mp hx]
      exact s1.ex q hq
/-! ### another thing at a place -/
theorem Own.rep : ∀ {is : List Int} {F : List Addr} {v : V} {d z : D}, Own K NoG H F v d → pathD d is = some z →
    ∃ u F1, AtP H v is u ∧ Own K NoG H F1 u z ∧ (∀ q ∈ F1, q ∈ F) ∧
      ∀ {W : Addr → Prop} {H' : Hp} {z' : D} {F2 Fe : List Addr}, Kp W H H' → Wl W H → (∀ q ∈ F, W q → q ∈ F1) → Own K NoG H' F2 u z' → (∀ q ∈ F2, q ∈ F1 ∨ q ∈ Fe) → (∀ q ∈ F, q ∉ Fe) →
        ∃ d' F3, repAt d is z' = some d' ∧ Own K NoG H' F3 v d' ∧ ∀ q ∈ F3, q ∈ F ∨ q ∈ Fe
  | [], F, v, d, z, o, h => by
    simp only [pathD, Option.some.injEq] at h
    subst h
    exact ⟨v, F, rfl, o, fun q hq => hq, fun {W H' z' F2 Fe} _ _ _ o' hs hd => ⟨z', F2, by simp [repAt], o', hs⟩⟩
  | i :: is, F, v, d, z, o, h => by
    cases o with
    | tup hp ol hz =>
      rename_i p0 vs0 ds0
      simp only [pathD] at h
      obtain ⟨y, e1, e2⟩ := Option.bind_eq_some_iff.mp h
      obtain ⟨j, e3, e4⟩ := atI_some e1
      obtain ⟨u, F1', h1, h2, h3, h4⟩ := ol.upd e4
      obtain ⟨u2, F1, g1, g2, g3, g4⟩ := Own.rep h2 e2
      refine ⟨u2, F1, ⟨p0, vs0, u, rfl, .inr hp, by rw [show atI vs0 i = _ from atI_of (by rw [ol.len]; exact e3) h1], g1⟩, g2, fun q hq => h3 q (g3 q hq), fun {W H' z' F2 Fe} kp wl hw o' hs hd => ?_⟩
      obtain ⟨d', F3, q1, q2, q3⟩ := g4 kp wl (fun q hq x => hw q (h3 q hq) x) o' hs (fun q hq => hd q (h3 q hq))
      obtain ⟨F4, o4, s4⟩ := h4 (H' := H') (Fe := Fe) kp wl (fun q hq x => g3 q (hw q hq x)) q2 q3 hd
      rw [set_self h1] at o4
      refine ⟨.tup (ds0.set j d'), F4, ?_, .tup (kp p0 _ hp (fun x => wl.t _ _ hp x)) o4 (by rw [List.length_set]; exact hz), s4⟩
      rw [repAt, e3, Option.bind_some, e4, Option.bind_some, q1]
      rfl
    | frz g _ _ _ => exact g.elim
    | lst hp ol hn hz =>
      rename_i p0 vs0 ds0 F0
      simp only [pathD] at h
      obtain ⟨y, e1, e2⟩ := Option.bind_eq_some_iff.mp h
      obtain ⟨j, e3, e4⟩ := atI_some e1
      obtain ⟨u, F1', h1, h2, h3, h4⟩ := ol.upd e4
      obtain ⟨u2, F1, g1, g2, g3, g4⟩ := Own.rep h2 e2
      refine ⟨u2, F1, ⟨p0, vs0, u, rfl, .inl hp, by rw [show atI vs0 i = _ from atI_of (by rw [ol.len]; exact e3) h1], g1⟩, g2, fun q hq => List.mem_cons_of_mem _ (h3 q (g3 q hq)), fun {W H' z' F2 Fe} kp wl hw o' hs hd => ?_⟩
      have hw' : ∀ q ∈ F0, W q → q ∈ F1 := fun q hq x => hw q (List.mem_cons_of_mem _ hq) x
      have hd' : ∀ q ∈ F0, q ∉ Fe := fun q hq => hd q (List.mem_cons_of_mem _ hq)
      have nw : ¬ W p0 := fun x => hn (h3 _ (g3 _ (hw p0 List.mem_cons_self x)))
      obtain ⟨d', F3, q1, q2, q3⟩ := g4 kp wl (fun q hq x => hw' q (h3 q hq) x) o' hs (fun q hq => hd' q (h3 q hq))
      obtain ⟨F4, o4, s4⟩ := h4 (H' := H') (Fe := Fe) kp wl (fun q hq x => g3 q (hw' q hq x)) q2 q3 hd'
      rw [set_self h1] at o4
      refine ⟨.lst (ds0.set j d'), p0 :: F4, ?_, .lst (kp p0 _ hp nw) o4 (fun hq => ?_) (by rw [List.length_set]; exact hz), fun q hq => ?_⟩
      · rw [repAt, e3, Option.bind_some, e4, Option.bind_some, q1]
        rfl
      · rcases s4 p0 hq with x | x
        · exact hn x
        · exact hd p0 List.mem_cons_self x
      · rcases List.mem_cons.mp hq with rfl | hq
        · exact .inl List.mem_cons_self
        · rcases s4 q hq with x | x
          · exact .inl (List.mem_cons_of_mem _ x)
          · exact .inr x
    | _ => simp [pathD] at h
theorem snd_dputp {x : Nat} {p2 : Pos} (hu : X.A.units + 1 < cLine) (hk : kd ks x = .ow) (hs : simpE i' = true) (hx : x ∉ ei) (hc : noComp e = true) (ho : me.off (ep ++ ei) = true)
    (he : SndE X φ ks cl E e ir me ea) (hb : SndP X φ ks cl E a x path ep) (hi : SndE X φ ks cl E i i' mi ei) (hsl : NoSl i) :
    SndS X φ ks cl E rm (.Assign [.Subscript a i p2] e pos) (.dputp x path i' ir) (ea ++ (ep ++ ei) ++ [x]) [] := by
  obtain ⟨te, pe, qe⟩ := he
  obtain ⟨ta, pa, hp, hxe, qa⟩ := hb
  obtain ⟨ti, pi, qi⟩ := hi
  refine ⟨_, ps_dput hu pa pi pe (noComp_ok hc _ _ _), fun G H σ Γ Φ D0 I h => ?_⟩
  simp only [evS] at h
  refine qe G H σ Γ Φ _ I ?_
  cases hev : evE φ ir Γ with
  | bad => rw [hev] at h; exact h.elim
  | exc k Γ1 =>
    rw [hev] at h
    exact fun G1 H1 Φ1 I1 s1 => h G1 H1 σ Φ1 I1 (s1.wider fun j hj => List.mem_append_left _ (List.mem_append_left _ hj)) Agr.refl
  | ok d Γ1 =>
    rw [hev, toS_ok] at h
    intro G1 H1 Φ1 w I1 s1 ⟨Fe, r1, o1⟩
    rcases simps_ok (φ := φ) hp Γ1 with ⟨dsp, e1⟩ | e1
    rotate_left
    · rw [e1] at h
      exact h.elim
    rw [e1, toS_ok] at h
    rcases simp_ok (φ := φ) hs Γ1 with ⟨dk, e2⟩ | e2
    rotate_left
    · rw [e2] at h
      exact h.elim
    rw [e2, toS_ok] at h
    generalize eo : ((keyOf dk).bind fun key => (intsOf dsp).bind fun is => (get Γ1 x).bind fun t => (pathD t is).bind fun z => (putD key d z).bind fun z' => repAt t is z') = o at h
    cases o with
    | none => exact h.elim
    | some t' =>
    obtain ⟨key, e3, eo⟩ := Option.bind_eq_some_iff.mp eo
    obtain ⟨is, e3i, eo⟩ := Option.bind_eq_some_iff.mp eo
    obtain ⟨t, e4, eo⟩ := Option.bind_eq_some_iff.mp eo
    obtain ⟨z, e4z, eo⟩ := Option.bind_eq_some_iff.mp eo
    obtain ⟨z', e4p, eo⟩ := Option.bind_eq_some_iff.mp eo
    cases z <;> first | (cases e4p; done) | skip
    rename_i kk zs
    simp only [putD] at e4p
    split at e4p
    rotate_left 1
    · cases e4p
    rename_i hcond
    cases e4p
    simp only [Bool.and_eq_true, decide_eq_true_eq] at hcond
    obtain ⟨⟨him, hdi⟩, hlt⟩ := hcond
    refine qa G1 H1 σ Γ1 Φ1 _ I1 ?_
    rw [atp_path e1 e3i e4 e4z]
    intro G2 H2 Φ2 u I2 s2 ⟨v0, f1, f2⟩
    refine qi G2 H2 σ Γ1 Φ2 _ I2 ?_
    rw [e2]
    intro G3 H3 Φ3 wk I3 s3 ⟨F, rk, _⟩
    have off2 : me.off ep = true ∧ me.off ei = true := by
      cases me <;> first | exact ⟨rfl, rfl⟩ | skip
      simp only [Md.off, Bool.not_eq_true', List.contains_eq_mem, decide_eq_false_iff_not, List.mem_append, not_or] at ho ⊢
      exact ho
    have r3 := (r1.step I1 s2 off2.1).step I2 s3 off2.2
    have oe := (r3.own.immut hdi)
    obtain ⟨v2, g2, o2⟩ := own_slot I2 hk e4
    rw [f1] at g2
    cases g2
    obtain ⟨kt, kf⟩ := step_keep I2 s3 hx
    have f3 := f2.keep kt o2 kf e4z
    obtain ⟨v3, g3, o3⟩ := own_slot I3 hk e4
    rw [f1] at g3
    cases g3
    obtain ⟨u2, F1, b1, b2, b3, b4⟩ := o3.rep e4z
    have e6 := f3.uniq b1
    subst e6
    cases b2 with
    | dfz g _ _ _ _ => exact g.elim
    | dct hpd hl ol hn hz =>
      rename_i a0 us F0
      obtain ⟨ef, ol0⟩ := ol.immut him
      subst ef
      have hus : us.length = kk.length := by rw [ol0.len, hl]
      obtain ⟨b, hb⟩ : ∃ b, wk = .ref b ∧ H3 b = some (.tup (key.map kV)) := by
        cases dk <;> simp only [keyOf, reduceCtorEq] at e3
        obtain ⟨b, bs, q1, q2, q3, _⟩ := rk.own.tups
        rw [keysOf_own q3 e3] at q2
        exact ⟨b, q1, q2⟩
      obtain ⟨rfl, hb2⟩ := hb
      refine ⟨a0, L2.upd H3 a0 (.dT (putK (kk.zip us) key w)), rfl, DPut.t hpd hb2 (by rw [List.length_zip]; omega), ?_⟩
      have kp : Kp (fun q => q = a0) H3 (L2.upd H3 a0 (.dT (putK (kk.zip us) key w))) := upd_kp
      have wl : Wl (fun q => q = a0) H3 := fun q e o h => by
        subst e
        rw [hpd] at h
        exact ⟨⟨.dT _, .inr ⟨_, rfl⟩⟩, (Option.some.inj h).symm⟩
      have olk : OwnL X.K NoG (L2.upd H3 a0 (.dT (putK (kk.zip us) key w))) [] us zs := ol0.keep kp wl (fun _ h => h.elim) (fun _ h => h) fun _ h => nomatch h
      have oek : Own X.K NoG (L2.upd H3 a0 (.dT (putK (kk.zip us) key w))) [] w d := oe.2.keep kp wl (fun _ h => h.elim) (fun _ h => h) fun _ h => nomatch h
      have lz : zs.length = kk.length := hl.symm
      have on : Own X.K NoG (L2.upd H3 a0 (.dT (putK (kk.zip us) key w))) [a0] (.ref a0) (.dct (putS kk zs key d).1 (putS kk zs key d).2) := by
        refine .dct (vs := (putS kk us key w).2) ?_ (putS_len lz).symm (putS_own hus olk oek) (fun h => nomatch h) ?_
        · rw [upd_same, putK_zip hus, putS_fst (us := us) (ds := zs) (x := w) (d := d)]
        · rw [putS_len lz]
          have := putS_le (kk := kk) (us := zs) (k := key) (x := d)
          omega
      obtain ⟨d', F3, c1, c2, c3⟩ := b4 (Fe := []) kp wl (fun q _ e => by rw [e]; exact List.mem_cons_self) on (fun q hq => .inl (by rw [List.mem_singleton.mp hq]; exact List.mem_cons_self)) (fun _ _ h => nomatch h)
      rw [c1] at eo
      cases eo
      have s13 := (s1.trans (s2.trans s3))
      have hxi : x < σ.length := (List.getElem?_eq_some_iff.mp f1).1
      have c4 : ∀ q ∈ F3, q ∈ Φ3 x := fun q hq => (c3 q hq).elim id fun z => nomatch z
      have ha0 : a0 ∈ Φ3 x := b3 a0 List.mem_cons_self
      exact h G3 _ _ _ (I3.chgW f1 hxi kp (fun q e => e ▸ ha0) upd_al (by rw [hk]; exact c2) (by rw [hk]; rfl) (fun h => by rw [hk] at h; cases h) (tmp_alive I3 upd_al c4)) (chg_stepW s13 kp (fun q e => e ▸ ha0) upd_al fun q hq => .inl (c4 q hq)) Agr.refl
/-! ### for k, x in enumerate(l) -/
theorem for_enum {K : PySem.W.Frag} {a : Addr} {xs : List V} {g : TG} {tb : TS} {D : Ends} {σ : St} {H : Hp} (Pv : Nat → St → Hp → Prop) (h0 : Pv 0 σ H) (hl : ∀ i σ H, i ≤ xs.length → Pv i σ H → SqL K H a xs)
    (hs : ∀ i x T σ H, xs[i]? = some x → Pv i σ H → H T = none → g (.ref T) σ (upd H T (.tup [.int (i : Nat), x])) fun σ2 H2 => tb { D with nx := Pv (i + 1), ct := Pv (i + 1), bk := D.nx } σ2 H2) (hd : ∀ σ H, Pv xs.length σ H → D.nx σ H) :
    ∃ W : Nat → Nat → St → Hp → Prop, (∃ m, W 0 m σ H) ∧ ∀ i m σ H, W i m σ H →
      ((Ite K a).stop i H ∧ D.nx σ H) ∨ ((Ite K a).go i H ∧ ∃ N : St → Hp → Prop, (∀ σ' H', N σ' H' → ∃ m', m' < m ∧ W (i + 1) m' σ' H') ∧ ∀ x H', (Ite K a).yld i H x H' → g x σ H' fun σ2 H2 => tb { D with nx := N, ct := N, bk := D.nx } σ2 H2) := by
  refine ⟨fun i m σ H => m = xs.length - i ∧ i ≤ xs.length ∧ Pv i σ H, ⟨xs.length, by simp, Nat.zero_le _, h0⟩, ?_⟩
  rintro i m σ H ⟨rfl, hi, p⟩
  have q := hl i σ H hi p
  by_cases hlt : i < xs.length
  · refine .inr ⟨⟨xs, xs[i], q, by simp [hlt]⟩, Pv (i + 1), fun σ' H' p' => ⟨xs.length - (i + 1), by omega, rfl, hlt, p'⟩, fun x H' y => ?_⟩
    obtain ⟨T, z, rfl, hT, rfl, hx⟩ := y
    exact hs i z T σ H (hx xs q) p hT
  · have e : i = xs.length := by omega
    subst e
    exact .inl ⟨⟨xs, q, Nat.le_refl _⟩, hd σ H p⟩
theorem snd_fore {elts : List Expr} {kk : Nat} {tpos p0 p1 : Pos} (hp : PassesOwn (model X.prog X.w) X.A X.env X.xe) (hc : X.calm = true) (hg0 : Gl X "enumerate") (hn : X.mg "enumerate" = none) (hst : noStar iter = true) (hs : SndE X φ ks cl E iter iter' ms es) (ht : ms.bare = true)
    (hg : SndG X ks .sh (.Tuple elts kk tpos) tg) (hb : SndSs X φ ks cl E rm sts ss ea wa) (hoff : ms.off (tg.slots ++ ea) = true) :
    SndS X φ ks cl E rm (.For (.Tuple elts kk tpos) (.Call (.Name "enumerate" p0) [iter] [] p1) sts [] pos) (.fore tg iter' ss) (es ++ (tg.slots ++ ea)) (tg.slots ++ wa) := by
  obtain ⟨t, p, q⟩ := hs
  obtain ⟨g, pg, qg⟩ := hg
  obtain ⟨u, pb, qb⟩ := hb
  refine ⟨_, ps_for hp hc (pi_enum hg0 hn (pa_cons p pa_nil (noStar_ok hst _)) (by rw [noStar_ok hst]; rfl)) pg pb (noSet_ok rfl _), fun G H σ Γ Φ D0 I h => ?_⟩
  simp only [evS] at h
  refine q G H σ Γ Φ _ I (h.expr sub_l fun x Γ1 G1 H1 Φ1 v I1 s1 r0 h1 => ?_)
  obtain ⟨F, r1, _⟩ := r0
  cases x <;> first | exact h1.elim | skip
  rename_i ds
  have ht2 : ms.tmp = false := by cases ms <;> first | rfl | cases ht
  obtain ⟨a, us, F', rfl, ha, o1, f1, l1⟩ := r1.own.seq
  simp only [itemsOf, ofo_some, toS_ok] at h1
  have h2 : DenS X ks cl E rm (tg.slots ++ ea) (tg.slots ++ wa) (forL (turnOf φ tg ss) (numD ds) Γ1) G1 H1 σ Γ1 Φ1 D0 := DenS.less h1 sub_r fun _ h => h
  have cell : ∀ {G2 H2 Φ2 Γ2}, Step (tg.slots ++ ea) G1 H1 Φ1 Γ1 G2 H2 Φ2 Γ2 → H2 a = some (.lst us) := fun s => s.kp a _ ha (Res.kept I1 r1 ht2 hoff)
  refine ⟨a, us, rfl, SqL.of ha, for_enum (K := X.K) (a := a) (xs := us) (fun i σ' H' => ∃ G2 Γ2 Φ2, SI X.K ks G2 H' σ' Γ2 Φ2 ∧ Step (tg.slots ++ ea) G1 H1 Φ1 Γ1 G2 H' Φ2 Γ2 ∧ DenS X ks cl E rm (tg.slots ++ ea) (tg.slots ++ wa) (forL (turnOf φ tg ss) ((numD ds).drop i) Γ2) G2 H' σ' Γ2 Φ2 D0) ?_ (fun i σ' H' _ ⟨G2, Γ2, Φ2, I2, s2, _⟩ => SqL.of (cell s2)) (fun i x T σ' H' hx ⟨G2, Γ2, Φ2, I2, s2, h3⟩ hT => ?_) fun σ' H' ⟨G2, Γ2, Φ2, I2, s2, h3⟩ => ?_⟩
  · exact ⟨G1, Γ1, Φ1, I1, Step.refl, h2⟩
  · have hi : i < us.length := (List.getElem?_eq_some_iff.mp hx).1
    have hid : i < ds.length := by rw [← o1.len]; exact hi
    have hin : i < (numD ds).length := by rw [numD_len]; exact hid
    rw [List.drop_eq_getElem_cons hin] at h3
    have en : (numD ds)[i] = .tup [.int (i : Nat), ds[i]] := by
      have := numD_get (ds := ds) (List.getElem?_eq_getElem hid)
      rw [List.getElem?_eq_getElem hin] at this
      exact Option.some.inj this
    rw [en] at h3
    have r2 := r1.step I1 s2 hoff
    obtain ⟨u, F2, it, q2⟩ := r2.item ht2 (ds := ds) rfl (List.getElem?_eq_getElem hid)
    have e : u = x := by
      obtain ⟨p', us', ep, hh, e3⟩ := it
      cases ep
      have ha2 := cell s2
      rcases hh with hh | hh <;> rw [ha2] at hh <;> cases hh
      rw [hx] at e3
      cases e3
      rfl
    subst e
    have ex := upd_ex (o := HO.tup [.int (i : Nat), u]) hT
    have gr : Step [] G2 H' Φ2 Γ2 G2 (upd H' T (.tup [.int (i : Nat), u])) Φ2 Γ2 := Step.grow ex
    have q3 : Own X.K G2 (upd H' T (.tup [.int (i : Nat), u])) [] u ds[i] := by
      have hF : F2 = [] := q2.bare ht
      subst hF
      exact q2.own.ex ex
    have rt : Res X.K .sh G2 (upd H' T (.tup [.int (i : Nat), u])) Φ2 [] (.ref T) (.tup [.int (i : Nat), ds[i]]) := ⟨rfl, .tup upd_same (.cons0 .int (.cons0 q3 .nil)) (by show 2 ≤ sizeLine; decide)⟩
    refine loop_turn (tgE := .Tuple elts kk tpos) qg qb (I2.grow ex) rt (h3.shift gr (wa := []) Agr.refl (fun _ h => nomatch h) fun _ h => nomatch h) fun G3 H3 σ3 Γ3 Φ3 I3 s3 h4 => ⟨G3, Γ3, Φ3, I3, ((s2.trans gr).trans s3).wider fun i hi => ?_, h4⟩
    rcases List.mem_append.mp hi with hi | hi
    · rcases List.mem_append.mp hi with hi | hi
      · exact hi
      · exact nomatch hi
    · exact hi
  · rw [o1.len, ← numD_len (ds := ds), List.drop_length, forL] at h3
    exact h3 G2 H' σ' Φ2 I2 Step.refl (Agr.refl)
end
end CW
/-! The words for these rules. -/
namespace CW
open PySem L2
section
variable {X : Cx} {φ : FEnv} {ks : List Kd} {cl : Nat → Addr} {E : L2.St → XK} {rm : Md}
variable {m me mi m1 ma mb mc ms : Md} {eff eff' es' ea eb ec ei ep own w w' wa : List Nat} {pos p p2 : Pos} {x : Str} {a b c e i iter tgE eltE : Expr} {a' b' c' i' ir iter' elt : CW.E} {es ifs : List Expr} {irs path : List CW.E} {as : List Arg} {st : Stmt} {sts sts' : List Stmt} {s' : S} {ss ss' : List S} {tg : Tg} {scope : Scope}
theorem y_bx (i : Nat) {k : Pos} (ht : SndC X φ ks cl E es irs as eb) (hki : kd ks i = .ow := by rfl) (hoff : i ∉ eb := by decide) (hN : X.N[i]? = some x := by rfl) (hv : Vis X.env.scope x := by first | exact Or.inl rfl | exact Or.inr (Or.inl rfl) | exact Or.inr (Or.inr rfl)) (h1 : (x == ("__debug__" : Str)) = false := by decide) (h2 : (x == ("__classdict__" : Str)) = false := by decide) :
    SndC X φ ks cl E (.List [.Name x p] k :: es) (.lst [.var i] :: irs) (.bx i :: as) eb := sc_bx (p := p) hki hN hv h1 h2 hoff ht
theorem noSl_ok (h : plainIx b = true) : NoSl b := by
  intro ov iv
  cases b <;> first | rfl | cases h
theorem y_dget (hu : X.A.units + 65 < cLine) (ha : SndE X φ ks cl E a a' ma ea) (hb : SndE X φ ks cl E b b' mb eb) (off : ma.off eb = true := by rfl) (hp : plainIx b = true := by rfl) (ht : ma.tmp = false := by rfl) : SndE X φ ks cl E (.Subscript a b pos) (.dget a' b') ma (ea ++ eb) := snd_dget (by omega) (noSl_ok hp) ht ha hb off
theorem y_mx (hn : X.mg "max" = none) (ha : SndE X φ ks cl E a a' ma ea) (hg : Gl X "max" := by rfl) (hs : noStar a = true := by rfl) (hc : X.calm = true := by rfl) : SndE X φ ks cl E (.Call (.Name "max" p) [a] [] pos) (.mx a') .im ea := snd_mx hc hg hn hs ha
theorem y_srt (hu : X.A.units + 65 < cLine) (hn : X.mg "sorted" = none) (ha : SndE X φ ks cl E a a' ma ea) (hg : Gl X "sorted" := by rfl) (hs : noStar a = true := by rfl) : SndE X φ ks cl E (.Call (.Name "sorted" p) [a] [] pos) (.srt a') .ow ea := snd_srt hu hg hn hs ha
theorem y_dof (hu : X.A.units + 65 < cLine) (hn : X.mg "dict" = none) (ha : SndE X φ ks cl E a a' ma ea) (hb : ma.bare = true := by rfl) (hg : Gl X "dict" := by rfl) (hs : noStar a = true := by rfl) (hc : X.calm = true := by rfl) : SndE X φ ks cl E (.Call (.Name "dict" p) [a] [] pos) (.dof a') .os ea := snd_dof hc (by omega) hg hn hs hb ha
theorem y_dvl {ap mp : Pos} (hn : X.mg "list" = none) (ha : SndE X φ ks cl E a a' ma ea) (hg : Gl X "list" := by rfl) (hab : attributeBase a "values" X.env (eval a X.env) = eval a X.env := by rfl) (hl : (ap.endLine == mp.line) = true := by decide) (hc : X.calm = true := by rfl) :
    SndE X φ ks cl E (.Call (.Name "list" p) [.Call (.Attribute a "values" ap) [] [] mp] [] pos) (.dvl a') .ow ea := snd_dvl hc hg hn hab hl ha
theorem y_dputp (hu : X.A.units + 65 < cLine) (x : Nat) (he : SndE X φ ks cl E e ir me ea) (hb : SndP X φ ks cl E a x path ep) (hi : SndE X φ ks cl E i i' mi ei) (hk : kd ks x = .ow := by rfl) (hs : simpE i' = true := by rfl) (hx : x ∉ ei := by decide) (hc : noComp e = true := by rfl) (hpl : plainIx i = true := by rfl) (ho : me.off (ep ++ ei) = true := by rfl) :
    SndS X φ ks cl E rm (.Assign [.Subscript a i p2] e pos) (.dputp x path i' ir) (ea ++ (ep ++ ei) ++ [x]) [] := snd_dputp (by omega) hk hs hx hc ho he hb hi (noSl_ok hpl)
theorem y_fore {elts : List Expr} {kk : Nat} {tpos p0 p1 : Pos} (px : PassesOwn (model X.prog X.w) X.A X.env X.xe) (hn : X.mg "enumerate" = none) (hs : SndE X φ ks cl E iter iter' ms es') (hg : SndG X ks .sh (.Tuple elts kk tpos) tg) (hb : SndSs X φ ks cl E rm sts ss ea wa) (off : ms.off (tg.slots ++ ea) = true := by rfl) (htm : ms.bare = true := by rfl) (hst : noStar iter = true := by rfl) (hg0 : Gl X "enumerate" := by rfl) (hc : X.calm = true := by rfl) :
    SndS X φ ks cl E rm (.For (.Tuple elts kk tpos) (.Call (.Name "enumerate" p0) [iter] [] p1) sts [] pos) (.fore tg iter' ss) (es' ++ (tg.slots ++ ea)) (tg.slots ++ wa) := snd_fore px hc hg0 hn hst hs htm hg hb off
end
end CW
/-! A name of one's own, only read while something is reckoned that changes nothing. -/
namespace CW
open PySem L2
section
variable {X : Cx} {φ : FEnv} {ks : List Kd} {cl : Nat → Addr} {E : L2.St → XK} {G G1 G2 G' : Addr → Prop} {H H0 H' H1 H2 : Hp} {σ : L2.St} {Γ Γ1 Γ2 : Env} {Φ Φ0 Φ1 Φ2 : Nat → List Addr}
variable {m : Md} {e : Expr} {ir : CW.E} {K : PySem.W.Frag}
theorem kd_set_ne {x j : Nat} {k : Kd} (h : j ≠ x) : kd (ks.set x k) j = kd ks j := by
  unfold kd
  rw [List.getD_eq_getElem?_getD, List.getD_eq_getElem?_getD, List.getElem?_set_ne (Ne.symm h)]
theorem kd_set_same {x : Nat} (h : kd ks x = .ow) : kd (ks.set x .sh) x = .sh := by
  have hx : x < ks.length := by
    apply Classical.byContradiction
    intro q
    unfold kd at h
    rw [List.getD_eq_getElem?_getD, List.getElem?_eq_none (by omega)] at h
    cases h
  unfold kd
  rw [List.getD_eq_getElem?_getD, List.getElem?_set_self hx]
  rfl
theorem SI.bor {x : Nat} (hk : kd ks x = .ow) (I : SI K ks G H σ Γ Φ) : SI K (ks.set x .sh) (fun p => G p ∨ p ∈ Φ x) H σ Γ (pu Φ x []) := by
  refine ⟨I.len, by rw [List.length_set]; exact I.kl, fun i d h => ?_, fun i h => ?_, fun i h => ?_, fun i d h ho => ?_, fun i j hij p hp hq => ?_, fun i p hp hg => ?_, fun p hg => ?_⟩
  · obtain ⟨v, a, b⟩ := I.slot i d h
    refine ⟨v, a, ?_⟩
    by_cases e : i = x
    · subst e
      rw [hk] at b
      rw [kd_set_same hk, pu_same]
      exact b.freeze (G' := fun p => G p ∨ p ∈ Φ i) (fun _ h => h.elim) fun p hp => .inr hp
    · rw [kd_set_ne e, pu_ne e]
      exact b.mono (Kd.g_mono fun _ h => .inl h)
  · by_cases e : i = x
    · subst e
      exact pu_same
    · rw [pu_ne e]
      exact I.non i h
  · by_cases e : i = x
    · subst e
      exact pu_same
    · rw [kd_set_ne e] at h
      rw [pu_ne e]
      exact I.sh i h
  · by_cases e : i = x
    · subst e
      rw [kd_set_same hk] at ho
      cases ho
    · rw [kd_set_ne e] at ho
      rw [pu_ne e]
      exact I.os i d h ho
  · rcases pu_mem hp with ⟨_, q⟩ | ⟨_, q⟩
    · exact nomatch q
    · rcases pu_mem hq with ⟨_, q'⟩ | ⟨_, q'⟩
      · exact nomatch q'
      · exact I.dis i j hij p q q'
  · rcases pu_mem hp with ⟨_, q⟩ | ⟨hi, q⟩
    · exact nomatch q
    · rcases hg with hg | hg
      · exact I.gd i p q hg
      · exact I.dis i x hi p q hg
  · rcases hg with hg | hg
    · exact I.gl p hg
    · obtain ⟨xs, q⟩ := I.mut x p hg
      rw [q]
      exact fun h => nomatch h
theorem step_none (s : Step [] G H Φ Γ G1 H1 Φ1 Γ1) : Γ1 = Γ ∧ (∀ i, Φ1 i = Φ i) ∧ ∀ p o, H p = some o → H1 p = some o :=
  ⟨List.ext_getElem? fun i => (s.fx i (fun h => nomatch h)).2, fun i => (s.fx i (fun h => nomatch h)).1, fun p o e => s.kp p o e fun _ h => nomatch h⟩
theorem DenR.bor {x : Nat} {r : R D} {Q : VK} (hm : m = .im ∨ m = .ow) (I : SI X.K ks G H σ Γ Φ) (h : DenR X ks cl E [] (RelE X m [] H Φ) r G H σ Γ Φ Q) :
    DenR X (ks.set x .sh) cl E [] (RelE X m [] H (pu Φ x [])) r (fun p => G p ∨ p ∈ Φ x) H σ Γ (pu Φ x []) Q := by
  cases r with
  | bad => exact h.elim
  | exc c Γ1 =>
    intro G2 H2 Φ2 I2 s2
    obtain ⟨e1, e2, e3⟩ := step_none s2
    subst e1
    exact h G H2 Φ (I.grow e3) (Step.grow e3)
  | ok d Γ1 =>
    intro G2 H2 Φ2 v I2 s2 ⟨F, r2, o2⟩
    obtain ⟨e1, e2, e3⟩ := step_none s2
    subst e1
    refine h G H2 Φ v (I.grow e3) (Step.grow e3) ⟨F, ?_, fun t p hp => ?_⟩
    · rcases hm with rfl | rfl
      · exact r2
      · refine ⟨r2.1, fun p hp => ?_⟩
        obtain ⟨a, b, c⟩ := r2.2 p hp
        refine ⟨fun g => a (s2.g p (.inl g)), fun i hi => ?_, c⟩
        by_cases e : i = x
        · subst e
          exact a (s2.g p (.inr hi))
        · refine b i ?_
          rw [e2 i, pu_ne e]
          exact hi
    · rcases o2 t p hp with q | ⟨i, hi, _⟩
      · exact .inl q
      · exact nomatch hi
theorem y_bor (x : Nat) {eff : List Nat} (h : SndE X φ (ks.set x .sh) cl E e ir m eff) (he : eff = [] := by rfl) (hk : kd ks x = .ow := by rfl) (hm : m = .im ∨ m = .ow := by first | exact Or.inl rfl | exact Or.inr rfl) : SndE X φ ks cl E e ir m [] := by
  subst he
  obtain ⟨t, p, q⟩ := h
  exact ⟨t, p, fun G H σ Γ Φ Q I h => q _ H σ Γ _ Q (I.bor hk) (h.bor hm I)⟩
theorem y_borL (x : Nat) {eff : List Nat} (h : SndLC X φ (ks.set x .sh) cl E e ir m eff) (he : eff = [] := by rfl) (hk : kd ks x = .ow := by rfl) (hm : m = .im ∨ m = .ow := by first | exact Or.inl rfl | exact Or.inr rfl) : SndLC X φ ks cl E e ir m [] := by
  subst he
  obtain ⟨t, p, w, q⟩ := h
  exact ⟨t, p, w, fun G H σ Γ Φ Q I h => q _ H σ Γ _ Q (I.bor hk) (h.bor hm I)⟩
end
end CW
/-! A loop that lends each item to a name of its own; a loop over two lists side by side; a statement that only reads some names. -/
namespace CW
open PySem L2
section
variable {X : Cx} {φ : FEnv} {ks : List Kd} {cl : Nat → Addr} {E : L2.St → XK} {rm : Md} {G G1 G2 G' : Addr → Prop} {H H0 H' H1 H2 : Hp} {σ σ1 σ2 : L2.St} {Γ Γ1 Γ2 Γ' : Env} {Φ Φ0 Φ1 Φ2 Φ' : Nat → List Addr}
variable {m ms ma mb : Md} {eff es ea eb w wa : List Nat} {pos : Pos} {F F' F1 F2 : List Addr} {v u : V} {d : D} {vs us : List V} {ds : List D} {K : PySem.W.Frag} {a b iter iter2 : Expr} {iter' iter2' : CW.E} {sts : List Stmt} {ss : List S} {s' : S} {st : Stmt} {tg : Tg} {D0 : Ends}
/-- an item put back in its place -/
theorem OwnL.ins : ∀ {F F1 : List Addr} {us : List V} {ds : List D} {i : Nat} {u : V} {d : D}, OwnL K G H F (us.eraseIdx i) (ds.eraseIdx i) → Own K G H F1 u d → (∀ p ∈ F1, p ∉ F) → us[i]? = some u → i < ds.length →
    ∃ F2, OwnL K G H F2 us (ds.set i d) ∧ ∀ p, p ∈ F2 ↔ p ∈ F ∨ p ∈ F1
  | F, F1, us, ds, 0, u, d, h, o, n, e, hi => by
    cases us with
    | nil => simp at e
    | cons u' us =>
      cases ds with
      | nil => simp at hi
      | cons d' ds =>
        cases e
        refine ⟨F1 ++ F, .cons o h n, fun p => ?_⟩
        rw [List.mem_append]
        exact Or.comm
  | F, F1, us, ds, i + 1, u, d, h, o, n, e, hi => by
    cases us with
    | nil => simp at e
    | cons u' us =>
      cases ds with
      | nil => simp at hi
      | cons d' ds =>
        cases h with
        | cons h0 h1 n1 =>
          rename_i A B
          obtain ⟨F2, o2, s2⟩ := OwnL.ins (i := i) h1 o (fun p hp hq => n p hp (List.mem_append_right _ hq)) (by simpa using e) (by simpa using hi)
          refine ⟨A ++ F2, .cons h0 o2 (fun p hp hq => ?_), fun p => ?_⟩
          · rcases (s2 p).mp hq with hq | hq
            · exact n1 p hp hq
            · exact n p hq (List.mem_append_left _ hp)
          · rw [List.mem_append, List.mem_append, s2, or_assoc]
theorem get_set_same {Γ : Env} {i : Nat} {o : Option D} (h : i < Γ.length) : get (Γ.set i o) i = o := by
  unfold get
  rw [List.getElem?_set_self h]
  rfl
theorem get_lt {Γ : Env} {i : Nat} {d : D} (h : get Γ i = some d) : i < Γ.length := (List.getElem?_eq_some_iff.mp (gets h)).1
theorem put_self {Γ : Env} {i : Nat} {d : D} (h : get Γ i = some d) : put (Γ.set i none) i d = Γ := by
  unfold put
  rw [List.set_set]
  apply List.ext_getElem?
  intro j
  by_cases e : i = j
  · subst e
    rw [List.getElem?_set_self (get_lt h), gets h]
  · rw [List.getElem?_set_ne e]
theorem none_of {Γ : Env} {i : Nat} (h : get Γ i = none) : ∀ d : D, Γ[i]? ≠ some (some d) := fun d e => by
  unfold get at h
  rw [e] at h
  cases h
theorem set_none_self {Γ : Env} {i : Nat} (h : get Γ i = none) : Γ.set i none = Γ := by
  apply List.ext_getElem?
  intro j
  by_cases e : i = j
  · subst e
    by_cases hl : i < Γ.length
    · rw [List.getElem?_set_self hl]
      unfold get at h
      rw [List.getElem?_eq_getElem hl] at h ⊢
      exact (congrArg some h).symm
    · rw [List.getElem?_eq_none (by rw [List.length_set]; omega), List.getElem?_eq_none (by omega)]
  · rw [List.getElem?_set_ne e]
theorem snd_form1 {x y : Nat} {nx ny : Str} {p p2 : Pos} (hp : PassesOwn (model X.prog X.w) X.A X.env X.xe) (hc : X.calm = true) (hk : kd ks x = .ow) (hky : kd ks y = .ow) (hxy : y ≠ x) (oky : NmOk X ks ny y)
    (hN : X.N[x]? = some nx) (hv : Vis X.env.scope nx) (h1 : (nx == ("__debug__" : Str)) = false) (h2 : (nx == ("__classdict__" : Str)) = false) (hb : SndSs X φ ks cl E rm sts ss ea wa) (hxa : x ∉ ea) (hxw : x ∉ wa) (hyw : y ∉ wa) :
    SndS X φ ks cl E rm (.For (.Name ny p) (.Name nx p2) sts [] pos) (.form1 y x ss) (x :: y :: ea) (y :: wa) := by
  obtain ⟨tb, pb, qb⟩ := hb
  refine ⟨_, ps_for hp hc (pi_list (pe_var hN hv h1 h2)) (pg_name oky.nd oky.at_ oky.loc oky.fn) pb (noSet_ok rfl _), fun G H σ Γ Φ D0 I h => ?_⟩
  simp only [evS] at h
  cases eg : get Γ x with
  | none => rw [eg] at h; exact h.elim
  | some t =>
  rw [eg] at h
  cases t <;> first | exact h.elim | skip
  rename_i ds
  simp only at h
  obtain ⟨v0, e0, o0⟩ := own_slot I hk eg
  generalize hΦ : Φ x = Fx at o0
  cases o0 with
  | frz g _ _ _ => exact g.elim
  | lst hpp ol hn hz =>
  rename_i p us F0
  have hxs : x < σ.length := (List.getElem?_eq_some_iff.mp e0).1
  have hys : y < σ.length := by rw [← I.kl]; exact oky.lt
  have hul : us.length = ds.length := ol.len
  refine ⟨.ref p, e0, p, rfl, ⟨us, SqL.of hpp⟩, for_list (K := X.K) (a := p) (xs := us) (fun i σ' H' => ∃ G' Γ' Φ' acc, SI X.K ks G' H' σ' Γ' Φ' ∧ Agr (y :: wa) σ σ' ∧ get Γ' x = some (.lst (acc ++ ds.drop i)) ∧ acc.length = i ∧ get Γ' y = none ∧ H' p = some (.lst us) ∧
      DenS X ks cl E rm (x :: y :: ea) (y :: wa) (formL (fun Γ => evSs φ ss Γ) y x (ds.drop i) acc (Γ'.set x none)) G' H' σ' Γ' Φ' D0) ?_ (fun i σ' H' _ ⟨_, _, _, _, _, _, _, _, _, hh, _⟩ => SqL.of hh) (fun i u σ' H' hu ⟨G', Γ', Φ', acc, I', ag, hg, hl, hy0, hh, h3⟩ => ?_) fun σ' H' ⟨G', Γ', Φ', acc, I', ag, hg, hl, hy0, hh, h3⟩ => ?_⟩
  · refine ⟨G, Γ.set y none, pu Φ y [], [], I.drop y, Agr.refl, ?_, rfl, ?_, hpp, ?_⟩
    · rw [get_set_ne hxy, eg]
      simp
    · exact get_set_same (by rw [I.len]; exact hys)
    · exact h.shift (Step.drop y) (wa := []) Agr.refl (fun i hi => by rw [List.mem_singleton.mp hi]; simp) (fun _ h => nomatch h)
  · show tb _ (σ'.set y (some u)) H'
    have hi : i < us.length := (List.getElem?_eq_some_iff.mp hu).1
    have hid : i < ds.length := by omega
    have e3 : σ'[x]? = some (some (V.ref p)) := by
      rw [ag x (by
        intro q
        rcases List.mem_cons.mp q with q | q
        · exact hxy q.symm
        · exact hxw q)]
      exact e0
    obtain ⟨v1, f1, o1⟩ := own_slot I' hk hg
    rw [e3] at f1
    cases f1
    generalize hΦ' : Φ' x = Fx' at o1
    cases o1 with
    | frz g _ _ _ => exact g.elim
    | lst hp' ol' hn' hz' =>
    rename_i us' F1
    rw [hh] at hp'
    cases hp'
    have hcur : (acc ++ ds.drop i)[i]? = some ds[i] := by
      rw [List.getElem?_append_right (by omega), hl, Nat.sub_self, List.getElem?_drop, Nat.add_zero, List.getElem?_eq_getElem hid]
    obtain ⟨u', Fd, Fr, g1, od, orr, sd, sr, dd⟩ := ol'.erase hcur
    rw [hu] at g1
    cases g1
    have hylt : y < Γ'.length := by rw [I'.len, ← I'.kl]; exact oky.lt
    have hxl : x < Γ'.length := get_lt hg
    have Φy : Φ' y = [] := I'.non y (none_of hy0)
    have inx : ∀ q ∈ p :: F1, q ∈ Φ' x := fun q hq => by rw [hΦ']; exact hq
    -- the item lent
    have Ia := I'.drop x
    have td : Tmp G' H' (pu (pu Φ' x []) y []) Fd := fun q hq => by
      have hqx := inx q (List.mem_cons_of_mem _ (sd q hq))
      refine ⟨I'.gd x q hqx, fun j hj => ?_, ?_⟩
      · rcases pu_mem hj with ⟨_, z⟩ | ⟨hjy, z⟩
        · exact nomatch z
        · rcases pu_mem z with ⟨_, z⟩ | ⟨hjx, z⟩
          · exact nomatch z
          · exact I'.dis j x hjx q z hqx
      · obtain ⟨mm, z⟩ := I'.mut x q hqx
        rw [z]
        exact fun h => nomatch h
    have hys' : y < σ'.length := by rw [← I'.kl]; exact oky.lt
    have Ib : SI X.K ks G' H' (σ'.set y (some u)) (put (Γ'.set x none) y ds[i]) (pu (pu Φ' x []) y Fd) := Ia.put (i := y) (F := Fd) (v := u) (d := ds[i]) hys' (by rw [hky]; exact od) (fun h => by rw [hky] at h; cases h) (fun h => by rw [hky] at h; cases h) td
    have sb : Step [x, y] G' H' Φ' Γ' G' H' (pu (pu Φ' x []) y Fd) (put (Γ'.set x none) y ds[i]) := by
      refine ⟨fun _ h => h, fun _ h => .inl h, fun _ _ h _ => h, fun j hj => ?_, fun j hj q hq => ?_, fun _ h => h⟩
      · have hjx : j ≠ x := fun e => hj (by simp [e])
        have hjy : j ≠ y := fun e => hj (by simp [e])
        unfold put
        rw [pu_ne hjy, pu_ne hjx, List.getElem?_set_ne hjy.symm, List.getElem?_set_ne hjx.symm]
        exact ⟨rfl, rfl⟩
      · rcases pu_mem hq with ⟨_, z⟩ | ⟨_, z⟩
        · exact .inl ⟨x, by simp, inx q (List.mem_cons_of_mem _ (sd q z))⟩
        · rcases pu_mem z with ⟨_, z⟩ | ⟨_, z⟩
          · exact nomatch z
          · exact .inl ⟨j, hj, z⟩
    have ab : Agr (y :: wa) σ' (σ'.set y (some u)) := fun j hj => List.getElem?_set_ne fun e => hj (by simp [e])
    rw [List.drop_eq_getElem_cons hid, formL] at h3
    refine qb G' H' _ _ _ _ Ib ?_
    have wid : ∀ {G2 H2 Φ2 Γ2}, Step ea G' H' (pu (pu Φ' x []) y Fd) (put (Γ'.set x none) y ds[i]) G2 H2 Φ2 Γ2 → Step (x :: y :: ea) G' H' Φ' Γ' G2 H2 Φ2 Γ2 := fun s => (sb.trans s).wider fun j hj => by simpa using hj
    have agw : ∀ {σ2 : L2.St}, Agr wa (σ'.set y (some u)) σ2 → Agr (y :: wa) σ' σ2 := fun a => (ab.trans a).wider fun j hj => by
      rcases List.mem_append.mp hj with hj | hj
      · exact hj
      · exact List.mem_cons_of_mem _ hj
    cases hr : evSs φ ss (put (Γ'.set x none) y ds[i]) with
    | bad => rw [hr] at h3; exact h3.elim
    | bk Γ2 => rw [hr] at h3; exact h3.elim
    | exc c Γ2 =>
      rw [hr] at h3
      exact fun G2 H2 σ2 Φ2 I2 s2 a2 => h3 G2 H2 σ2 Φ2 I2 (wid s2) (agw a2)
    | rt z Γ2 =>
      rw [hr] at h3
      exact fun G2 H2 σ2 Φ2 F v I2 s2 a2 r o => h3 G2 H2 σ2 Φ2 F v I2 (wid s2) (agw a2) r ((Org.back sb o).mono fun j hj => by simpa using hj)
    | nx Γ2 =>
      rw [hr] at h3
      simp only at h3
      intro G2 H2 σ2 Φ2 I2 s2 a2
      cases hgy : get Γ2 y with
      | none => rw [hgy] at h3; exact h3.elim
      | some d' =>
      rw [hgy] at h3
      simp only at h3
      obtain ⟨v2, f2, o2⟩ := own_slot I2 hky hgy
      rw [a2 y hyw, List.getElem?_set_self hys'] at f2
      cases f2
      -- what was left is still there
      have tl : Tmp G' H' (pu (pu Φ' x []) y Fd) (p :: Fr) := fun q hq => by
        have hqx : q ∈ Φ' x := by
          rcases List.mem_cons.mp hq with rfl | hq
          · exact inx _ List.mem_cons_self
          · exact inx q (List.mem_cons_of_mem _ (sr q hq))
        refine ⟨I'.gd x q hqx, fun j hj => ?_, ?_⟩
        · rcases pu_mem hj with ⟨_, z⟩ | ⟨hjy, z⟩
          · rcases List.mem_cons.mp hq with rfl | hq
            · exact hn' (sd _ z)
            · exact dd q z hq
          · rcases pu_mem z with ⟨_, z⟩ | ⟨hjx, z⟩
            · exact nomatch z
            · exact I'.dis j x hjx q z hqx
        · obtain ⟨mm, z⟩ := I'.mut x q hqx
          rw [z]
          exact fun h => nomatch h
      have tl2 := tl.step s2
      have or2 : OwnL X.K NoG H2 Fr (us.eraseIdx i) ((acc ++ ds.drop i).eraseIdx i) := orr.keep (W := fun q => ∃ j ∈ ea, q ∈ pu (pu Φ' x []) y Fd j) (fun q o e n => s2.kp q o e fun j hj z => n ⟨j, hj, z⟩) (Ib.wl ea) (fun _ h => h.elim) (fun _ h => h) fun q hq ⟨j, _, z⟩ => (tl q (List.mem_cons_of_mem _ hq)).2.1 j z
      have hh2 : H2 p = some (.lst us) := s2.kp p _ hh fun j _ z => (tl p List.mem_cons_self).2.1 j z
      have dy : ∀ q ∈ Φ2 y, q ∉ p :: Fr := fun q hq hq' => (tl2 q hq').2.1 y hq
      obtain ⟨F4, o4, s4⟩ := or2.ins (i := i) o2 (fun q hq hq' => dy q hq (List.mem_cons_of_mem _ hq')) hu (by rw [List.length_append, List.length_drop]; omega)
      have ecur : (acc ++ ds.drop i).set i d' = (acc ++ [d']) ++ ds.drop (i + 1) := by
        rw [List.set_append_right _ _ (by omega), hl, Nat.sub_self, List.drop_eq_getElem_cons hid, List.set_cons_zero, List.append_assoc]
        rfl
      rw [ecur] at o4
      have hxl2 : x < σ2.length := by
        have q1 := I2.kl
        have q2 := I'.kl
        have q3 := I'.len
        omega
      have Ic := I2.drop y
      have Id := Ic.put (i := x) (F := p :: F4) (v := .ref p) (d := .lst ((acc ++ [d']) ++ ds.drop (i + 1))) hxl2
        (by rw [hk]; exact .lst hh2 o4 (fun q => by
              rcases (s4 p).mp q with q | q
              · exact hn' (sr p q)
              · exact dy p q List.mem_cons_self) (by
              have : ((acc ++ [d']) ++ ds.drop (i + 1)).length = ds.length := by
                rw [← ecur, List.length_set, List.length_append, List.length_drop]
                omega
              rw [this]
              exact hz)) (fun h => by rw [hk] at h; cases h) (fun h => by rw [hk] at h; cases h) (fun q hq => by
          have cases2 : q ∈ p :: Fr ∨ q ∈ Φ2 y := by
            rcases List.mem_cons.mp hq with rfl | hq
            · exact .inl List.mem_cons_self
            · rcases (s4 q).mp hq with z | z
              · exact .inl (List.mem_cons_of_mem _ z)
              · exact .inr z
          rcases cases2 with z | z
          · refine ⟨(tl2 q z).1, fun j hj => ?_, (tl2 q z).2.2⟩
            rcases pu_mem hj with ⟨_, e⟩ | ⟨_, e⟩
            · exact nomatch e
            · rcases pu_mem e with ⟨_, e⟩ | ⟨_, e⟩
              · exact nomatch e
              · exact (tl2 q z).2.1 j e
          · refine ⟨I2.gd y q z, fun j hj => ?_, ?_⟩
            · rcases pu_mem hj with ⟨_, e⟩ | ⟨_, e⟩
              · exact nomatch e
              · rcases pu_mem e with ⟨_, e⟩ | ⟨hjy, e⟩
                · exact nomatch e
                · exact I2.dis j y hjy q e z
            · obtain ⟨mm, e⟩ := I2.mut y q z
              rw [e]
              exact fun h => nomatch h)
      have eσ : σ2.set x (some (.ref p)) = σ2 := by
        apply List.ext_getElem?
        intro j
        by_cases e : x = j
        · subst e
          rw [List.getElem?_set_self hxl2, a2 x hxw, List.getElem?_set_ne hxy]
          exact e3.symm
        · rw [List.getElem?_set_ne e]
      rw [eσ] at Id
      have hxΓ2 : x < Γ2.length := by rw [I2.len]; exact hxl2
      have sA := wid s2
      have sB : Step (x :: y :: ea) G' H' Φ' Γ' G2 H2 (pu (pu Φ2 y []) x (p :: F4)) ((Γ2.set y none).set x (some (.lst ((acc ++ [d']) ++ ds.drop (i + 1))))) := by
        refine ⟨sA.g, sA.gn, sA.kp, fun j hj => ?_, fun j hj q hq => ?_, sA.ex⟩
        · have hjx : j ≠ x := fun e => hj (by simp [e])
          have hjy : j ≠ y := fun e => hj (by simp [e])
          rw [pu_ne hjx, pu_ne hjy, List.getElem?_set_ne hjx.symm, List.getElem?_set_ne hjy.symm]
          exact sA.fx j hj
        · rcases pu_mem hq with ⟨_, z⟩ | ⟨hjx, z⟩
          · rcases List.mem_cons.mp z with rfl | z
            · exact .inl ⟨x, by simp, inx _ List.mem_cons_self⟩
            · rcases (s4 q).mp z with z | z
              · exact .inl ⟨x, by simp, inx q (List.mem_cons_of_mem _ (sr q z))⟩
              · exact sA.fn y (by simp) q z
          · rcases pu_mem z with ⟨_, z⟩ | ⟨hjy, z⟩
            · exact nomatch z
            · exact sA.fn j hj q z
      refine ⟨G2, _, _, acc ++ [d'], Id, (ag.trans (agw a2)).wider (fun j hj => (List.mem_append.mp hj).elim id id), ?_, by rw [List.length_append, hl]; rfl, ?_, hh2, ?_⟩
      · exact get_set_same (by rw [List.length_set]; exact hxΓ2)
      · rw [get_set_ne (Ne.symm hxy)]
        exact get_set_same (by rw [I2.len, ← I2.kl]; exact oky.lt)
      · have hnx : get Γ2 x = none := by
          have z := (s2.fx x hxa).2
          unfold get
          rw [z]
          unfold put
          rw [List.getElem?_set_ne hxy, List.getElem?_set_self hxl]
          rfl
        have e5 : ((Γ2.set y none).set x (some (D.lst ((acc ++ [d']) ++ ds.drop (i + 1))))).set x none = Γ2.set y none := by
          rw [List.set_set]
          exact set_none_self (by rw [get_set_ne hxy]; exact hnx)
        rw [e5]
        exact h3.shift sB (wa := y :: wa) (agw a2) (fun _ h => h) fun _ h => h
  · rw [hul, List.drop_length, formL] at h3
    rw [hul, List.drop_length, List.append_nil] at hg
    rw [put_self hg] at h3
    exact h3 G' H' σ' Φ' I' Step.refl Agr.refl
/-! ### for x, y in zip(a, b) -/
theorem zipD_len {a b : List D} (h : a.length = b.length) : (zipD a b).length = a.length := by
  unfold zipD
  rw [List.length_zipWith, h, Nat.min_self]
theorem zipD_get {a b : List D} {i : Nat} {x y : D} (hx : a[i]? = some x) (hy : b[i]? = some y) : (zipD a b)[i]? = some (.tup [x, y]) := by
  unfold zipD
  rw [List.getElem?_zipWith, hx, hy]
theorem snd_forz {elts : List Expr} {kk : Nat} {tpos p0 p1 : Pos} {es2 : List Nat} {ms2 : Md} (hp : PassesOwn (model X.prog X.w) X.A X.env X.xe) (hc : X.calm = true) (hg0 : Gl X "zip") (hn : X.mg "zip" = none) (hst : noStar iter = true) (hst2 : noStar iter2 = true)
    (hs : SndE X φ ks cl E iter iter' ms es) (ht : ms.bare = true) (hs2 : SndE X φ ks cl E iter2 iter2' ms2 es2) (ht2 : ms2.bare = true) (ho1 : ms.off es2 = true)
    (hg : SndG X ks .sh (.Tuple elts kk tpos) tg) (hb : SndSs X φ ks cl E rm sts ss ea wa) (hoff : ms.off (tg.slots ++ ea) = true) (hoff2 : ms2.off (tg.slots ++ ea) = true) :
    SndS X φ ks cl E rm (.For (.Tuple elts kk tpos) (.Call (.Name "zip" p0) [iter, iter2] [] p1) sts [] pos) (.forz tg iter' iter2' ss) (es ++ (es2 ++ (tg.slots ++ ea))) (tg.slots ++ wa) := by
  obtain ⟨t, p, q⟩ := hs
  obtain ⟨t2, p2, q2⟩ := hs2
  obtain ⟨g, pg, qg⟩ := hg
  obtain ⟨u, pb, qb⟩ := hb
  refine ⟨_, ps_for hp hc (pi_zip hg0 hn (pa_cons p (pa_cons p2 pa_nil (noStar_ok hst2 _)) (noStar_ok hst _)) (by rw [noStar_ok hst]) (by rw [noStar_ok hst2]; rfl)) pg pb (noSet_ok rfl _), fun G H σ Γ Φ D0 I h => ?_⟩
  simp only [evS] at h
  refine q G H σ Γ Φ _ I (h.expr sub_l fun x Γ1 G1 H1 Φ1 v I1 s1 r0 h1 => ?_)
  obtain ⟨F, r01, oo1⟩ := r0
  refine q2 G1 H1 σ Γ1 Φ1 _ I1 (h1.expr (fun i hi => List.mem_append_right _ (List.mem_append_left _ hi)) fun y Γ2 G2 H2 Φ2 v2 I2 s2 r02 h2 => ?_)
  obtain ⟨F2, r2, oo2⟩ := r02
  have r1 := r01.step I1 s2 ho1
  clear oo1 oo2
  cases x <;> first | exact h2.elim | skip
  rename_i ds
  cases y <;> first | exact h2.elim | skip
  rename_i ds2
  simp only [zipK] at h2
  split at h2
  rotate_left
  · exact h2.elim
  rename_i hll
  rw [ofo_some, toS_ok] at h2
  have hb1 : ms.tmp = false := by cases ms <;> first | rfl | cases ht
  have hb2 : ms2.tmp = false := by cases ms2 <;> first | rfl | cases ht2
  obtain ⟨a, us, F', rfl, ha, o1, f1, l1⟩ := r1.own.seq
  obtain ⟨b, us2, F2', rfl, hb', o2, f2, l2⟩ := r2.own.seq
  have h3 : DenS X ks cl E rm (tg.slots ++ ea) (tg.slots ++ wa) (forL (turnOf φ tg ss) (zipD ds ds2) Γ2) G2 H2 σ Γ2 Φ2 D0 := DenS.less h2 (fun i hi => List.mem_append_right _ (List.mem_append_right _ hi)) fun _ h => h
  have cell : ∀ {G3 H3 Φ3 Γ3}, Step (tg.slots ++ ea) G2 H2 Φ2 Γ2 G3 H3 Φ3 Γ3 → H3 a = some (.lst us) ∧ H3 b = some (.lst us2) := fun s => ⟨s.kp a _ ha (Res.kept I2 r1 hb1 hoff), s.kp b _ hb' (Res.kept I2 r2 hb2 hoff2)⟩
  have hu1 := o1.len
  have hu2 := o2.len
  refine ⟨a, b, us, us2, rfl, SqL.of ha, SqL.of hb', RZ.for_zipL (K := X.K) (a := a) (b := b) (xs := us) (ys := us2) (by omega) (fun i σ' H' => ∃ G3 Γ3 Φ3, SI X.K ks G3 H' σ' Γ3 Φ3 ∧ Step (tg.slots ++ ea) G2 H2 Φ2 Γ2 G3 H' Φ3 Γ3 ∧ DenS X ks cl E rm (tg.slots ++ ea) (tg.slots ++ wa) (forL (turnOf φ tg ss) ((zipD ds ds2).drop i) Γ3) G3 H' σ' Γ3 Φ3 D0) ?_ (fun i σ' H' ⟨G3, Γ3, Φ3, I3, s3, _⟩ => ⟨SqL.of (cell s3).1, SqL.of (cell s3).2⟩) (fun i x y T σ' H' hx hy ⟨G3, Γ3, Φ3, I3, s3, h4⟩ hT => ?_) fun σ' H' ⟨G3, Γ3, Φ3, I3, s3, h4⟩ => ?_⟩
  · exact ⟨G2, Γ2, Φ2, I2, Step.refl, h3⟩
  · have hi : i < us.length := (List.getElem?_eq_some_iff.mp hx).1
    have hi1 : i < ds.length := by omega
    have hi2 : i < ds2.length := by omega
    have hin : i < (zipD ds ds2).length := by rw [zipD_len hll]; exact hi1
    rw [List.drop_eq_getElem_cons hin] at h4
    have en : (zipD ds ds2)[i] = .tup [ds[i], ds2[i]] := by
      have := zipD_get (a := ds) (b := ds2) (List.getElem?_eq_getElem hi1) (List.getElem?_eq_getElem hi2)
      rw [List.getElem?_eq_getElem hin] at this
      exact Option.some.inj this
    rw [en] at h4
    have one : ∀ {m : Md} {F : List Addr} {a : Addr} {us : List V} {ds : List D} {x : V} (r : Res X.K m G2 H2 Φ2 F (.ref a) (.lst ds)) (hm : m.bare = true) (ho : m.off (tg.slots ++ ea) = true) (hc : H' a = some (.lst us)) (hx : us[i]? = some x) (hid : i < ds.length), Own X.K G3 H' [] x ds[i] := by
      intro m F a us ds x r hm ho hc hx hid
      have hm2 : m.tmp = false := by cases m <;> first | rfl | cases hm
      have r' := r.step I2 s3 ho
      obtain ⟨u, F3, it, q3⟩ := r'.item hm2 (ds := ds) rfl (List.getElem?_eq_getElem hid)
      have e : u = x := by
        obtain ⟨p', us', ep, hh, e3⟩ := it
        cases ep
        rcases hh with hh | hh <;> rw [hc] at hh <;> cases hh
        rw [hx] at e3
        cases e3
        rfl
      subst e
      have hF : F3 = [] := q3.bare hm
      subst hF
      exact q3.own
    have oa := one r1 ht hoff (cell s3).1 hx hi1
    have ob := one r2 ht2 hoff2 (cell s3).2 hy hi2
    have ex := upd_ex (o := HO.tup [x, y]) hT
    have gr : Step [] G3 H' Φ3 Γ3 G3 (upd H' T (.tup [x, y])) Φ3 Γ3 := Step.grow ex
    have rt : Res X.K .sh G3 (upd H' T (.tup [x, y])) Φ3 [] (.ref T) (.tup [ds[i], ds2[i]]) := ⟨rfl, .tup upd_same (.cons0 (oa.ex ex) (.cons0 (ob.ex ex) .nil)) (by show 2 ≤ sizeLine; decide)⟩
    refine loop_turn (tgE := .Tuple elts kk tpos) qg qb (I3.grow ex) rt (h4.shift gr (wa := []) Agr.refl (fun _ h => nomatch h) fun _ h => nomatch h) fun G4 H4 σ4 Γ4 Φ4 I4 s4 h5 => ⟨G4, Γ4, Φ4, I4, ((s3.trans gr).trans s4).wider fun i hi => ?_, h5⟩
    rcases List.mem_append.mp hi with hi | hi
    · rcases List.mem_append.mp hi with hi | hi
      · exact hi
      · exact nomatch hi
    · exact hi
  · rw [hu1, ← zipD_len hll, List.drop_length, forL] at h4
    exact h4 G3 H' σ' Φ3 I3 Step.refl (Agr.refl)
/-! ### a statement that only reads a name of one's own -/
theorem wipeE_mem {Γ : Env} {own : List Nat} {j : Nat} (h : j ∉ own) : (wipeE Γ own)[j]? = Γ[j]? := wipeE_out h
theorem SI.wipeN {own : List Nat} (I : SI K ks G H σ Γ Φ) (h : ∀ j ∈ own, (kd ks j).fr = true) (hl : σ1.length = σ.length) (ag : ∀ j, j ∉ own → σ1[j]? = σ[j]?) : SI K ks G H σ1 (wipeE Γ own) Φ := by
  refine ⟨by rw [wipeE_len]; exact I.len.trans hl.symm, I.kl.trans hl.symm, fun j d hj => ?_, fun j hj => ?_, I.sh, fun j d hj => ?_, I.dis, I.gd, I.gl⟩
  · by_cases e : j ∈ own
    · exact absurd hj (wipeE_in e)
    · rw [wipeE_out e] at hj
      obtain ⟨v, a, b⟩ := I.slot j d hj
      exact ⟨v, by rw [ag j e]; exact a, b⟩
  · by_cases e : j ∈ own
    · exact I.sh j (h j e)
    · exact I.non j fun d q => hj d (by rw [wipeE_out e]; exact q)
  · by_cases e : j ∈ own
    · exact absurd hj (wipeE_in e)
    · rw [wipeE_out e] at hj
      exact I.os j d hj
theorem snd_borS (x : Nat) (hk : kd ks x = .ow) {ys : List Nat} (hx : x ∉ ys) (hf : ∀ j ∈ ys, (kd ks j).fr = true) (h : SndS X φ (ks.set x .sh) cl E .im st s' eff w) (he : ∀ j ∈ eff, j ∈ ys) (hw : ∀ j ∈ w, j ∈ ys) : SndS X φ ks cl E .im st (.borS ys s') ys ys := by
  obtain ⟨t, p, q⟩ := h
  refine ⟨t, p, fun G H σ Γ Φ D0 I h => q _ H σ Γ _ D0 (I.bor hk) ?_⟩
  simp only [evS] at h
  have back : ∀ {G2 H2 Φ2 Γ2} {σ2 : L2.St}, SI X.K (ks.set x .sh) G2 H2 σ2 Γ2 Φ2 → Step eff (fun p => G p ∨ p ∈ Φ x) H (pu Φ x []) Γ G2 H2 Φ2 Γ2 → Agr w σ σ2 →
      SI X.K ks G H2 σ2 (wipeE Γ2 ys) Φ ∧ Step ys G H Φ Γ G H2 Φ (wipeE Γ2 ys) ∧ Agr ys σ σ2 ∧ wipeE Γ2 ys = wipeE Γ ys ∧ ∀ p o, H p = some o → H2 p = some o := by
    intro G2 H2 Φ2 Γ2 σ2 I2 s2 a2
    have ee : wipeE Γ2 ys = wipeE Γ ys := by
      apply List.ext_getElem?
      intro j
      by_cases e : j ∈ ys
      · have l1 : Γ2.length = Γ.length := by rw [I2.len, ← I2.kl, List.length_set, I.kl, ← I.len]
        have key : ∀ {Γ : Env}, j < Γ.length → (wipeE Γ ys)[j]? = some none := fun {Γ} hl => by
          have h1 := fun d => wipeE_in (Γ := Γ) (j := j) (d := d) e
          have h2 : j < (wipeE Γ ys).length := by rw [wipeE_len]; exact hl
          rw [List.getElem?_eq_getElem h2]
          cases z : (wipeE Γ ys)[j] with
          | none => rfl
          | some d => exact absurd (by rw [List.getElem?_eq_getElem h2, z]) (h1 d)
        by_cases hj : j < Γ.length
        · rw [key hj, key (by omega)]
        · rw [List.getElem?_eq_none (by rw [wipeE_len]; omega), List.getElem?_eq_none (by rw [wipeE_len]; omega)]
      · rw [wipeE_out e, wipeE_out e]
        exact (s2.fx j fun z => e (he j z)).2
    have hall : ∀ p o, H p = some o → H2 p = some o := fun p o e => s2.kp p o e fun i hi z => by
      rcases pu_mem z with ⟨_, z⟩ | ⟨_, z⟩
      · exact nomatch z
      · rw [I.sh i (hf i (he i hi))] at z
        exact nomatch z
    have hl : σ2.length = σ.length := by rw [← I2.kl, List.length_set, I.kl]
    have ag : Agr ys σ σ2 := a2.wider hw
    refine ⟨ee ▸ (I.grow hall).wipeN hf hl ag, ⟨fun _ h => h, fun _ h => .inl h, fun p o e _ => hall p o e, fun j hj => ?_, fun j hj p hp => ?_, fun p hp => s2.ex p hp⟩, ag, ee, hall⟩
    · rw [ee, wipeE_out hj]
      exact ⟨rfl, rfl⟩
    · rw [I.sh j (hf j hj)] at hp
      exact nomatch hp
  cases hr : evS φ s' Γ with
  | bad => rw [hr] at h; exact h.elim
  | bk Γ2 => rw [hr] at h; exact h.elim
  | nx Γ2 =>
    rw [hr] at h
    intro G2 H2 σ2 Φ2 I2 s2 a2
    obtain ⟨b1, b2, b3, _⟩ := back I2 s2 a2
    exact h G H2 σ2 Φ b1 b2 b3
  | exc c Γ2 =>
    rw [hr] at h
    intro G2 H2 σ2 Φ2 I2 s2 a2
    obtain ⟨b1, b2, b3, _⟩ := back I2 s2 a2
    exact h G H2 σ2 Φ b1 b2 b3
  | rt d Γ2 =>
    rw [hr] at h
    intro G2 H2 σ2 Φ2 F v I2 s2 a2 r o
    obtain ⟨b1, b2, b3, _⟩ := back I2 s2 a2
    exact h G H2 σ2 Φ F v b1 b2 b3 r fun z => nomatch z
/-- a name without data may be of any kind -/
theorem SI.reK {y : Nat} {k : Kd} (I : SI K ks G H σ Γ Φ) (hy : get Γ y = none) (hΦ : Φ y = []) : SI K (ks.set y k) G H σ Γ Φ := by
  have kn : ∀ j, j ≠ y → kd (ks.set y k) j = kd ks j := fun j h => kd_set_ne h
  refine ⟨I.len, by rw [List.length_set]; exact I.kl, fun j d hj => ?_, I.non, fun j hj => ?_, fun j d hj ho => ?_, I.dis, I.gd, I.gl⟩
  · have e : j ≠ y := fun e => none_of hy d (e ▸ hj)
    rw [kn j e]
    exact I.slot j d hj
  · by_cases e : j = y
    · exact e ▸ hΦ
    · rw [kn j e] at hj
      exact I.sh j hj
  · have e : j ≠ y := fun e => none_of hy d (e ▸ hj)
    rw [kn j e] at ho
    exact I.os j d hj ho
theorem snd_reK {y : Nat} {k : Kd} (hy : y < ks.length) (h : SndS X φ (ks.set y k) cl E .im st s' eff w) : SndS X φ ks cl E .im st (.reK y s') (y :: (eff ++ [y])) w := by
  obtain ⟨t, p, q⟩ := h
  refine ⟨t, p, fun G H σ Γ Φ D0 I h => ?_⟩
  have hyΓ : y < Γ.length := by rw [I.len, ← I.kl]; exact hy
  refine q G H σ (Γ.set y none) (pu Φ y []) D0 ((I.drop y).reK (get_set_same hyΓ) pu_same) ?_
  simp only [evS] at h
  have back : ∀ {G2 H2 Φ2 Γ2} {σ2 : L2.St}, SI X.K (ks.set y k) G2 H2 σ2 Γ2 Φ2 → Step eff G H (pu Φ y []) (Γ.set y none) G2 H2 Φ2 Γ2 →
      SI X.K ks G2 H2 σ2 (wipeE Γ2 [y]) (pu Φ2 y []) ∧ Step (y :: (eff ++ [y])) G H Φ Γ G2 H2 (pu Φ2 y []) (wipeE Γ2 [y]) := by
    intro G2 H2 Φ2 Γ2 σ2 I2 s2
    have ey : (ks.set y k).set y (kd ks y) = ks := by
      rw [List.set_set]
      apply List.ext_getElem?
      intro j
      by_cases e : y = j
      · subst e
        rw [List.getElem?_set_self hy, List.getElem?_eq_getElem hy]
        unfold kd
        rw [List.getD_eq_getElem?_getD, List.getElem?_eq_getElem hy]
        rfl
      · rw [List.getElem?_set_ne e]
    have hl2 : y < Γ2.length := by
      have q1 := I2.len
      have q2 := I2.kl
      rw [List.length_set] at q2
      omega
    have I3 := (I2.drop y).reK (k := kd ks y) (get_set_same hl2) pu_same
    rw [ey] at I3
    exact ⟨I3, (Step.drop y).trans (s2.trans (Step.drop y))⟩
  cases hr : evS φ s' (Γ.set y none) with
  | bad => rw [hr] at h; exact h.elim
  | bk Γ2 => rw [hr] at h; exact h.elim
  | nx Γ2 =>
    rw [hr] at h
    intro G2 H2 σ2 Φ2 I2 s2 a2
    obtain ⟨b1, b2⟩ := back I2 s2
    exact h G2 H2 σ2 _ b1 b2 a2
  | exc c Γ2 =>
    rw [hr] at h
    intro G2 H2 σ2 Φ2 I2 s2 a2
    obtain ⟨b1, b2⟩ := back I2 s2
    exact h G2 H2 σ2 _ b1 b2 a2
  | rt d Γ2 =>
    rw [hr] at h
    intro G2 H2 σ2 Φ2 F v I2 s2 a2 r o
    obtain ⟨b1, b2⟩ := back I2 s2
    exact h G2 H2 σ2 _ F v b1 b2 a2 r fun z => nomatch z
theorem y_reK (y : Nat) (k : Kd) (h : SndS X φ (ks.set y k) cl E rm st s' eff w) (hrm : rm = .im := by rfl) (hy : y < ks.length := by decide) : SndS X φ ks cl E rm st (.reK y s') (y :: (eff ++ [y])) w := by
  subst hrm
  exact snd_reK hy h
/-- the words -/
theorem y_form1 {nx ny : Str} {p p2 : Pos} (px : PassesOwn (model X.prog X.w) X.A X.env X.xe) (nd : X.N.Nodup) (y x : Nat) (hb : SndSs X φ ks cl E rm sts ss ea wa) (hk : kd ks x = .ow := by rfl) (hky : kd ks y = .ow := by rfl) (hxy : y ≠ x := by decide) (hxa : x ∉ ea := by decide) (hxw : x ∉ wa := by decide) (hyw : y ∉ wa := by decide) (hc : X.calm = true := by rfl)
    (hN' : X.N[y]? = some ny := by rfl) (hlo : Loc X.env.scope ny := by first | exact Or.inl rfl | exact Or.inr rfl) (hf : X.fn ny = true ∨ X.env.scope.names.lookup ny = some .local := by first | exact Or.inl rfl | exact Or.inr rfl) (hi : y < ks.length := by decide)
    (hN : X.N[x]? = some nx := by rfl) (hv : Vis X.env.scope nx := by first | exact Or.inl rfl | exact Or.inr (Or.inl rfl) | exact Or.inr (Or.inr rfl)) (h1 : (nx == ("__debug__" : Str)) = false := by decide) (h2 : (nx == ("__classdict__" : Str)) = false := by decide) :
    SndS X φ ks cl E rm (.For (.Name ny p) (.Name nx p2) sts [] pos) (.form1 y x ss) (x :: y :: ea) (y :: wa) := snd_form1 px hc hk hky hxy ⟨nd, hN', hlo, hf, hi⟩ hN hv h1 h2 hb hxa hxw hyw
theorem y_forz {elts : List Expr} {kk : Nat} {tpos p0 p1 : Pos} {es2 : List Nat} {ms2 : Md} (px : PassesOwn (model X.prog X.w) X.A X.env X.xe) (hn : X.mg "zip" = none) (hs : SndE X φ ks cl E iter iter' ms es) (hs2 : SndE X φ ks cl E iter2 iter2' ms2 es2) (hg : SndG X ks .sh (.Tuple elts kk tpos) tg) (hb : SndSs X φ ks cl E rm sts ss ea wa)
    (ht : ms.bare = true := by rfl) (ht2 : ms2.bare = true := by rfl) (ho1 : ms.off es2 = true := by rfl) (hoff : ms.off (tg.slots ++ ea) = true := by rfl) (hoff2 : ms2.off (tg.slots ++ ea) = true := by rfl) (hst : noStar iter = true := by rfl) (hst2 : noStar iter2 = true := by rfl) (hg0 : Gl X "zip" := by rfl) (hc : X.calm = true := by rfl) :
    SndS X φ ks cl E rm (.For (.Tuple elts kk tpos) (.Call (.Name "zip" p0) [iter, iter2] [] p1) sts [] pos) (.forz tg iter' iter2' ss) (es ++ (es2 ++ (tg.slots ++ ea))) (tg.slots ++ wa) := snd_forz px hc hg0 hn hst hst2 hs ht hs2 ht2 ho1 hg hb hoff hoff2
theorem y_borS (x : Nat) (ys : List Nat) (h : SndS X φ (ks.set x .sh) cl E rm st s' eff w) (hrm : rm = .im := by rfl) (hk : kd ks x = .ow := by rfl) (hx : x ∉ ys := by decide) (hf : ∀ j ∈ ys, (kd ks j).fr = true := by decide) (he : ∀ j ∈ eff, j ∈ ys := by decide) (hw : ∀ j ∈ w, j ∈ ys := by decide) : SndS X φ ks cl E rm st (.borS ys s') ys ys := by
  subst hrm
  exact snd_borS x hk hx hf h he hw
end
end CW
/-! repr of data; tuple(list). -/
namespace CW
open PySem PySem.Spec PyProof.Rows L2
theorem pys_eq : ∀ ds : List D, D.pys ds = ds.map D.py
  | [] => by simp [D.pys]
  | d :: ds => by simp [D.pys, pys_eq ds]
section
variable {X : Cx} {pins : List (Addr × Obj)} {σ : L2.St} {H : Hp} {s : Shared} {K : PySem.W.Frag} {G : Addr → Prop}
theorem key_reads (I : Inv X pins σ H s) : ∀ {k : List Key} {us : List Value}, Vals (k.map kV) us → ∃ as, ReadsAll s.heap us (k.map kyP) as
  | [], _, r => by
    rw [List.map_nil] at r
    cases r
    exact ⟨_, .nil⟩
  | k :: ks, _, r => by
    rw [List.map_cons] at r
    cases r with
    | cons h t =>
      obtain ⟨as, q⟩ := key_reads I t
      cases k with
      | inl i =>
        obtain ⟨tk, e⟩ := (show ∃ t, _ = Value.int i t from h)
        subst e
        exact ⟨_, .cons (.int i tk) q⟩
      | inr x =>
        obtain ⟨tk, e⟩ := (show ∃ t, _ = Value.str x t from h)
        subst e
        exact ⟨_, .cons (.str x tk) q⟩
/-- a key's tuple -/
theorem tkey_reads (I : Inv X pins σ H s) {k : List Key} {a : Addr} (h : H a = some (.tup (k.map kV))) : ∃ as, Reads s.heap (.ref a) (.tuple (k.map kyP)) as := by
  obtain ⟨_, its, r, o, h1, h2, n, h3⟩ := I.hok a _ h
  obtain ⟨as, q⟩ := key_reads I r
  exact ⟨as, .tuple h1 h2 h3 (by simpa using q)⟩
theorem keys_reads (I : Inv X pins σ H s) {vs : List V} : ∀ {ks : List (List Key)} {xs : List (List Key × Addr × Value)}, Paired (fun (p : List Key × V) (q : List Key × Addr × Value) => p.1 = q.1 ∧ H q.2.1 = some (.tup (p.1.map kV)) ∧ RelV p.2 q.2.2) (ks.zip vs) xs → vs.length = ks.length →
    (∃ as, ReadsAll s.heap (xs.map fun q => Value.ref q.2.1) (ks.map fun k => PyData.tuple (k.map kyP)) as) ∧ Vals vs (xs.map fun q => q.2.2)
  | [], xs, h, hl => by
    cases vs with
    | nil => cases h; exact ⟨⟨_, .nil⟩, .nil⟩
    | cons _ _ => simp at hl
  | k :: ks, xs, h, hl => by
    cases vs with
    | nil => simp at hl
    | cons v vs =>
      rw [List.zip_cons_cons] at h
      cases h with
      | cons h t =>
        rename_i q xs
        obtain ⟨e1, e2, e3⟩ := h
        obtain ⟨⟨as, r1⟩, r2⟩ := keys_reads I t (by simpa using hl)
        obtain ⟨bs, r0⟩ := tkey_reads I (k := k) e2
        exact ⟨⟨_, .cons r0 r1⟩, .cons e3 r2⟩
mutual
/-- a thing's data is read off the heap -/
theorem Own.rd (I : Inv X pins σ H s) : ∀ {F : List Addr} {v : V} {d : D} {u : Value}, Own K G H F v d → d.nos = true → RelV v u → ∃ as, Reads s.heap u d.py as
  | _, _, _, _, .non, _, r => by cases (show _ = Value.none from r); rw [D.py]; exact ⟨_, .none⟩
  | _, _, _, _, .bl, _, r => by cases (show _ = Value.bool _ from r); rw [D.py]; exact ⟨_, .bool _⟩
  | _, _, _, _, .int, _, r => by obtain ⟨t, e⟩ := (show ∃ t, _ = Value.int _ t from r); cases e; rw [D.py]; exact ⟨_, .int _ t⟩
  | _, _, _, _, .str, _, r => by obtain ⟨t, e⟩ := (show ∃ t, _ = Value.str _ t from r); cases e; rw [D.py]; exact ⟨_, .str _ t⟩
  | _, _, _, _, .tup (p := p) (vs := vs) h t _, n, r => by
    cases (show _ = Value.ref _ from r)
    obtain ⟨_, its, rv, o, h1, h2, m, h3⟩ := I.hok p _ h
    rw [D.nos] at n
    obtain ⟨as, q⟩ := OwnL.rd I t n rv
    rw [D.py]
    exact ⟨_, .tuple h1 h2 h3 (by simpa using q)⟩
  | _, _, _, _, .frz (p := p) (vs := vs) _ h t _, n, r => by
    cases (show _ = Value.ref _ from r)
    obtain ⟨_, its, m, rv, h1⟩ := I.hok p _ h
    rw [D.nos] at n
    obtain ⟨as, q⟩ := OwnL.rd I t n rv
    rw [D.py]
    exact ⟨_, .list h1 rfl rfl (by simpa using q)⟩
  | _, _, _, _, .lst (p := p) (vs := vs) h t _ _, n, r => by
    cases (show _ = Value.ref _ from r)
    obtain ⟨_, its, m, rv, h1⟩ := I.hok p _ h
    rw [D.nos] at n
    obtain ⟨as, q⟩ := OwnL.rd I t n rv
    rw [D.py]
    exact ⟨_, .list h1 rfl rfl (by simpa using q)⟩
  | _, _, _, _, .scrR _ _ _, n, _ => by rw [D.nos] at n; cases n
  | _, _, _, _, .scrK _ _, n, _ => by rw [D.nos] at n; cases n
  | _, _, _, _, .dfz (p := p) (ks := ks) (vs := vs) (ds := ds) _ h l t _, n, r => by
    cases (show _ = Value.ref _ from r)
    obtain ⟨_, _, xs, rel, o, es, ep, h1, h2, h3, h4, _⟩ := I.hok p _ h
    rw [D.nos] at n
    obtain ⟨⟨as, r1⟩, r2⟩ := keys_reads I rel (by rw [t.len, l])
    obtain ⟨bs, q⟩ := OwnL.rd I t n r2
    have lz : (ks.map fun k => PyData.tuple (k.map kyP)).length = (D.pys ds).length := by rw [List.length_map, pys_eq, List.length_map]; exact l
    rw [D.py]
    refine ⟨_, .dict h1 h2.1 h3 (as := as) (bs := bs) ?_ ?_⟩
    · rw [h4, List.map_map, List.map_fst_zip (Nat.le_of_eq lz)]
      exact r1
    · rw [h4, List.map_map, List.map_snd_zip (Nat.le_of_eq lz.symm)]
      exact q
  | _, _, _, _, .exn _ _, n, r => by simp [D.nos] at n
  | _, _, _, _, .dct (p := p) (ks := ks) (vs := vs) (ds := ds) h l t _ _, n, r => by
    cases (show _ = Value.ref _ from r)
    obtain ⟨_, _, xs, rel, o, es, ep, h1, h2, h3, h4, _⟩ := I.hok p _ h
    rw [D.nos] at n
    obtain ⟨⟨as, r1⟩, r2⟩ := keys_reads I rel (by rw [t.len, l])
    obtain ⟨bs, q⟩ := OwnL.rd I t n r2
    have lz : (ks.map fun k => PyData.tuple (k.map kyP)).length = (D.pys ds).length := by rw [List.length_map, pys_eq, List.length_map]; exact l
    rw [D.py]
    refine ⟨_, .dict h1 h2.1 h3 (as := as) (bs := bs) ?_ ?_⟩
    · rw [h4, List.map_map, List.map_fst_zip (Nat.le_of_eq lz)]
      exact r1
    · rw [h4, List.map_map, List.map_snd_zip (Nat.le_of_eq lz.symm)]
      exact q
theorem OwnL.rd (I : Inv X pins σ H s) : ∀ {F : List Addr} {vs : List V} {ds : List D} {us : List Value}, OwnL K G H F vs ds → D.noss ds = true → Vals vs us → ∃ as, ReadsAll s.heap us (D.pys ds) as
  | _, _, _, _, .nil, _, r => by cases r; rw [D.pys]; exact ⟨_, .nil⟩
  | _, _, _, _, .cons h t _, n, r => by
    rw [D.noss, Bool.and_eq_true] at n
    cases r with
    | cons r1 r2 =>
      obtain ⟨as, q1⟩ := Own.rd I h n.1 r1
      obtain ⟨bs, q2⟩ := OwnL.rd I t n.2 r2
      rw [D.pys]
      exact ⟨_, .cons q1 q2⟩
end

theorem py_list {ds : List D} : (D.lst ds).py = .list (D.pys ds) := by rw [D.py]
theorem py_tup {ds : List D} : (D.tup ds).py = .tuple (D.pys ds) := by rw [D.py]

theorem key_rk (I : Inv X pins σ H s) : ∀ {k : List Key} {us : List Value}, Vals (k.map kV) us → PyData.showableAll (k.map kyP) = true → (∀ t ∈ PyData.shownAll (k.map kyP), t.length ≤ sizeLine) → ReprAllK X.prog X.w [] s.heap (PyData.depthAll (k.map kyP)) us (PyData.shownAll (k.map kyP))
  | [], _, r, _, _ => by
    rw [List.map_nil] at r
    cases r
    simp only [List.map_nil, PyData.shownAll]
    exact .nil
  | k :: ks, _, r, hs, hz => by
    rw [List.map_cons] at r hs hz ⊢
    rw [PyData.showableAll, Bool.and_eq_true] at hs
    rw [PyData.shownAll] at hz
    rw [PyData.shownAll, PyData.depthAll]
    cases r with
    | cons h t =>
      have q := key_rk I t hs.2 fun t ht => hz t (List.mem_cons_of_mem _ ht)
      refine .cons ?_ (q.more_le (fun _ h => h) (Nat.le_max_right _ _))
      cases k with
      | inl i =>
        obtain ⟨tk, e⟩ := (show ∃ t, _ = Value.int i t from h)
        subst e
        rw [kyP, PyData.shown]
        exact .of_is (ReprIs.int tk (by simpa [kyP, PyData.showable] using hs.1)) _ _ _
      | inr x =>
        obtain ⟨tk, e⟩ := (show ∃ t, _ = Value.str x t from h)
        subst e
        rw [kyP, PyData.shown]
        refine .of_is (ReprIs.str x tk ?_) _ _ _
        have := hz _ List.mem_cons_self
        simpa [kyP, PyData.shown] using this
theorem tkey_rk (I : Inv X pins σ H s) {k : List Key} {a : Addr} (h : H a = some (.tup (k.map kV))) (hs : (PyData.tuple (k.map kyP)).showable = true) (hz : (PyData.tuple (k.map kyP)).shown.length ≤ sizeLine) :
    ∃ bs, ReadAtMost s.heap (PyData.tuple (k.map kyP)).depth bs ∧ ReprK X.prog X.w bs s.heap (PyData.tuple (k.map kyP)).depth (.ref a) (PyData.tuple (k.map kyP)).shown := by
  obtain ⟨_, its, r, o, h1, h2, n, h3⟩ := I.hok a _ h
  obtain ⟨as, rd⟩ := tkey_reads I h
  rw [PyData.shown] at hz
  have q := key_rk I r (by simpa [PyData.showable] using hs) fun t ht => Nat.le_trans (tupleText_mem_le ht) hz
  refine ⟨[a], ReadAtMost.cons rd (Nat.zero_le _) (fun _ h => nomatch h), ?_⟩
  rw [PyData.shown, PyData.depth]
  exact ReprK.tuple h1 h2 h3 (fun h => nomatch h) (by simpa using q)
theorem tkeys_rk (I : Inv X pins σ H s) : ∀ {ks : List (List Key)} {us : List Value}, (∀ (i : Nat) (k : List Key), ks[i]? = some k → ∃ a, us[i]? = some (.ref a) ∧ H a = some (.tup (k.map kV))) → us.length = ks.length → PyData.showableAll (ks.map fun k => PyData.tuple (k.map kyP)) = true → (∀ t ∈ PyData.shownAll (ks.map fun k => PyData.tuple (k.map kyP)), t.length ≤ sizeLine) →
    ∃ bs, ReadAtMost s.heap (PyData.depthAll (ks.map fun k => PyData.tuple (k.map kyP))) bs ∧ ReprAllK X.prog X.w bs s.heap (PyData.depthAll (ks.map fun k => PyData.tuple (k.map kyP))) us (PyData.shownAll (ks.map fun k => PyData.tuple (k.map kyP)))
  | [], us, _, hl, _, _ => by
    cases us with
    | nil => exact ⟨[], (fun _ h => nomatch h), by simp only [List.map_nil, PyData.shownAll]; exact .nil⟩
    | cons _ _ => simp at hl
  | k :: ks, us, h, hl, hs, hz => by
    cases us with
    | nil => simp at hl
    | cons u us =>
      rw [List.map_cons] at hs hz ⊢
      rw [PyData.showableAll, Bool.and_eq_true] at hs
      rw [PyData.shownAll] at hz
      rw [PyData.shownAll, PyData.depthAll]
      obtain ⟨a, e, ha⟩ := h 0 k rfl
      cases e
      obtain ⟨b1, r1, q1⟩ := tkey_rk I ha hs.1 (hz _ List.mem_cons_self)
      obtain ⟨b2, r2, q2⟩ := tkeys_rk I (ks := ks) (us := us) (fun i k hk => h (i + 1) k (by simpa using hk)) (by simpa using hl) hs.2 fun t ht => hz t (List.mem_cons_of_mem _ ht)
      exact ⟨b1 ++ b2, (r1.mono (Nat.le_max_left _ _)).append (r2.mono (Nat.le_max_right _ _)), .cons ((q1.more fun b hb => List.mem_append_left _ hb).level_le (Nat.le_max_left _ _)) (q2.more_le (fun b hb => List.mem_append_right _ hb) (Nat.le_max_right _ _))⟩
theorem keys_at {vs : List V} : ∀ {ks : List (List Key)} {xs : List (List Key × Addr × Value)}, Paired (fun (p : List Key × V) (q : List Key × Addr × Value) => p.1 = q.1 ∧ H q.2.1 = some (.tup (p.1.map kV)) ∧ RelV p.2 q.2.2) (ks.zip vs) xs → vs.length = ks.length →
    (∀ (i : Nat) (k : List Key), ks[i]? = some k → ∃ a, (xs.map fun q => Value.ref q.2.1)[i]? = some (.ref a) ∧ H a = some (.tup (k.map kV))) ∧ xs.length = ks.length
  | [], xs, h, hl => by
    cases vs with
    | nil => cases h; exact ⟨fun i k e => by simp at e, rfl⟩
    | cons _ _ => simp at hl
  | k :: ks, xs, h, hl => by
    cases vs with
    | nil => simp at hl
    | cons v vs =>
      rw [List.zip_cons_cons] at h
      cases h with
      | cons h t =>
        rename_i q xs
        obtain ⟨e1, e2, e3⟩ := h
        obtain ⟨r1, r2⟩ := keys_at t (by simpa using hl)
        refine ⟨fun i k' hk => ?_, by rw [List.length_cons, List.length_cons, r2]⟩
        cases i with
        | zero => cases hk; exact ⟨q.2.1, rfl, e2⟩
        | succ i => exact r1 i k' (by simpa using hk)
theorem lst_rk {prog : Program} {w : World} {h : Heap} {p : Addr} {its : List Value} {m n : Nat} {bs : List Addr} {ts : List Str} (h1 : h.get? p = some { cls := .type "list", data := .seq its.toArray m }) (hna : p ∉ bs) (hk : ReprAllK prog w bs h n its ts) :
    ReprK prog w (p :: bs) h (n + 1) (.ref p) (listText ts) := by
  cases its with
  | nil =>
    cases hk
    rw [listText_nil]
    exact ReprK.listEmpty h1 rfl rfl
  | cons x l => exact ReprK.list h1 rfl rfl hna (by simpa using hk.length_eq) (fun i y e => hk.item i y (by simpa using e))
theorem dct_py {ks : List (List Key)} {ds : List D} (l : ks.length = ds.length) : (D.dct ks ds).py = .dict ((ks.map fun k => PyData.tuple (k.map kyP)).zip (D.pys ds)) ∧
    ((ks.map fun k => PyData.tuple (k.map kyP)).zip (D.pys ds)).map (·.1) = (ks.map fun k => PyData.tuple (k.map kyP)) ∧ ((ks.map fun k => PyData.tuple (k.map kyP)).zip (D.pys ds)).map (·.2) = D.pys ds := by
  have lz : (ks.map fun k => PyData.tuple (k.map kyP)).length = (D.pys ds).length := by rw [List.length_map, pys_eq, List.length_map]; exact l
  exact ⟨by rw [D.py], List.map_fst_zip (Nat.le_of_eq lz), List.map_snd_zip (Nat.le_of_eq lz.symm)⟩
mutual
/-- a thing within another is shown -/
theorem Own.rk (I : Inv X pins σ H s) : ∀ {F : List Addr} {v : V} {d : D} {u : Value}, Own K G H F v d → d.nos = true → RelV v u → d.py.showable = true → d.py.shown.length ≤ sizeLine → ∃ bs, ReadAtMost s.heap d.py.depth bs ∧ ReprK X.prog X.w bs s.heap d.py.depth u d.py.shown
  | _, _, _, _, .non, _, r, _, _ => by cases (show _ = Value.none from r); rw [D.py, PyData.shown]; exact ⟨[], (fun _ h => nomatch h), .of_is ReprIs.none _ _ _⟩
  | _, _, _, _, .bl, _, r, _, _ => by cases (show _ = Value.bool _ from r); rw [D.py, PyData.shown]; exact ⟨[], (fun _ h => nomatch h), .of_is (ReprIs.bool _) _ _ _⟩
  | _, _, _, _, .int, _, r, hs, _ => by
    obtain ⟨t, e⟩ := (show ∃ t, _ = Value.int _ t from r)
    cases e
    rw [D.py] at hs ⊢
    rw [PyData.shown]
    exact ⟨[], (fun _ h => nomatch h), .of_is (ReprIs.int t (by simpa [PyData.showable] using hs)) _ _ _⟩
  | _, _, _, _, .str, _, r, _, hz => by
    obtain ⟨t, e⟩ := (show ∃ t, _ = Value.str _ t from r)
    cases e
    rw [D.py, PyData.shown] at hz ⊢
    exact ⟨[], (fun _ h => nomatch h), .of_is (ReprIs.str _ t hz) _ _ _⟩
  | _, _, _, _, .tup (p := p) (vs := vs) (ds := ds) h t z, n, r, hs, hz => by
    cases (show _ = Value.ref _ from r)
    obtain ⟨_, its, rv, o, h1, h2, m, h3⟩ := I.hok p _ h
    obtain ⟨as, rd⟩ := Own.rd I (Own.tup h t z) n r
    rw [D.nos] at n
    rw [py_tup] at hs hz rd ⊢
    rw [PyData.shown] at hz ⊢
    obtain ⟨bs, hb, hk⟩ := OwnL.rk I t n rv (by simpa [PyData.showable] using hs) fun t ht => Nat.le_trans (tupleText_mem_le ht) hz
    have hna : p ∉ bs := not_mem_of_deeper rd (by simp only [PyData.depth]; omega) hb
    refine ⟨p :: bs, ReadAtMost.cons rd (by simp only [PyData.depth]; omega) hb, ?_⟩
    rw [PyData.depth]
    exact ReprK.tuple h1 h2 h3 hna (by simpa using hk)
  | _, _, _, _, .frz (p := p) (vs := vs) (ds := ds) g h t z, n, r, hs, hz => by
    cases (show _ = Value.ref _ from r)
    obtain ⟨_, its, m, rv, h1⟩ := I.hok p _ h
    obtain ⟨as, rd⟩ := Own.rd I (Own.frz g h t z) n r
    rw [D.nos] at n
    rw [py_list] at hs hz rd ⊢
    rw [PyData.shown] at hz ⊢
    obtain ⟨bs, hb, hk⟩ := OwnL.rk I t n rv (by simpa [PyData.showable] using hs) fun t ht => Nat.le_trans (listText_mem_le ht) hz
    have hna : p ∉ bs := not_mem_of_deeper rd (by simp only [PyData.depth]; omega) hb
    refine ⟨p :: bs, ReadAtMost.cons rd (by simp only [PyData.depth]; omega) hb, ?_⟩
    rw [PyData.depth]
    exact lst_rk h1 hna hk
  | _, _, _, _, .lst (p := p) (vs := vs) (ds := ds) h t g z, n, r, hs, hz => by
    cases (show _ = Value.ref _ from r)
    obtain ⟨_, its, m, rv, h1⟩ := I.hok p _ h
    obtain ⟨as, rd⟩ := Own.rd I (Own.lst h t g z) n r
    rw [D.nos] at n
    rw [py_list] at hs hz rd ⊢
    rw [PyData.shown] at hz ⊢
    obtain ⟨bs, hb, hk⟩ := OwnL.rk I t n rv (by simpa [PyData.showable] using hs) fun t ht => Nat.le_trans (listText_mem_le ht) hz
    have hna : p ∉ bs := not_mem_of_deeper rd (by simp only [PyData.depth]; omega) hb
    refine ⟨p :: bs, ReadAtMost.cons rd (by simp only [PyData.depth]; omega) hb, ?_⟩
    rw [PyData.depth]
    exact lst_rk h1 hna hk
  | _, _, _, _, .scrR _ _ _, n, _, _, _ => by rw [D.nos] at n; cases n
  | _, _, _, _, .scrK _ _, n, _, _, _ => by rw [D.nos] at n; cases n
  | _, _, _, _, .dfz (p := p) (ks := ks) (vs := vs) (ds := ds) g h l t z, n, r, hs, hz => by
    cases (show _ = Value.ref _ from r)
    obtain ⟨_, hsy, xs, rel, o, es, ep, h1, h2, h3, h4, _⟩ := I.hok p _ h
    obtain ⟨as, rd⟩ := Own.rd I (Own.dfz g h l t z) n r
    rw [D.nos] at n
    obtain ⟨_, r2⟩ := keys_reads I rel (by rw [t.len, l])
    have hd := dct_py (ks := ks) (ds := ds) l
    rw [hd.1] at hs hz rd ⊢
    obtain ⟨hs1, hs2⟩ := PyData.showableKv_split _ (by simpa [PyData.showable] using hs)
    rw [hd.2.1] at hs1
    rw [hd.2.2] at hs2
    rw [PyData.shown] at hz
    obtain ⟨ka, kl⟩ := keys_at rel (by rw [t.len, l])
    obtain ⟨b1, rb1, k1⟩ := tkeys_rk I ka (by rw [List.length_map]; exact kl) hs1 fun t ht => by
      rw [← hd.2.1] at ht
      obtain ⟨q, hq, hl⟩ := PyData.shownKv_key_le _ t ht
      exact Nat.le_trans hl (Nat.le_trans (dictText_mem_le hq) hz)
    obtain ⟨b2, rb2, k2⟩ := OwnL.rk I t n r2 hs2 fun t ht => by
      rw [← hd.2.2] at ht
      obtain ⟨q, hq, hl⟩ := PyData.shownKv_val_le _ t ht
      exact Nat.le_trans hl (Nat.le_trans (dictText_mem_le hq) hz)
    rw [← hd.2.1] at rb1 k1
    rw [← hd.2.2] at rb2 k2
    have hb := (rb1.mono (PyData.depthAll_keys_le _)).append (rb2.mono (PyData.depthAll_vals_le _))
    have hna : p ∉ b1 ++ b2 := not_mem_of_deeper rd (by simp only [PyData.depth]; omega) hb
    refine ⟨p :: (b1 ++ b2), ReadAtMost.cons rd (by simp only [PyData.depth]; omega) hb, ?_⟩
    rw [PyData.depth, PyData.shown, PyData.shownKv_eq]
    refine ReprK.dict h1 h2.1 h3 hsy hna (ReprEntriesK.of_two es.toList _ _ ?_ ?_)
    · rw [h4, List.map_map]
      exact k1.more_le (fun b hb => List.mem_append_left _ hb) (PyData.depthAll_keys_le _)
    · rw [h4, List.map_map]
      exact k2.more_le (fun b hb => List.mem_append_right _ hb) (PyData.depthAll_vals_le _)
  | _, _, _, _, .exn _ _, n, r, hs, hz => by simp [D.nos] at n
  | _, _, _, _, .dct (p := p) (ks := ks) (vs := vs) (ds := ds) h l t g z, n, r, hs, hz => by
    cases (show _ = Value.ref _ from r)
    obtain ⟨_, hsy, xs, rel, o, es, ep, h1, h2, h3, h4, _⟩ := I.hok p _ h
    obtain ⟨as, rd⟩ := Own.rd I (Own.dct h l t g z) n r
    rw [D.nos] at n
    obtain ⟨_, r2⟩ := keys_reads I rel (by rw [t.len, l])
    have hd := dct_py (ks := ks) (ds := ds) l
    rw [hd.1] at hs hz rd ⊢
    obtain ⟨hs1, hs2⟩ := PyData.showableKv_split _ (by simpa [PyData.showable] using hs)
    rw [hd.2.1] at hs1
    rw [hd.2.2] at hs2
    rw [PyData.shown] at hz
    obtain ⟨ka, kl⟩ := keys_at rel (by rw [t.len, l])
    obtain ⟨b1, rb1, k1⟩ := tkeys_rk I ka (by rw [List.length_map]; exact kl) hs1 fun t ht => by
      rw [← hd.2.1] at ht
      obtain ⟨q, hq, hl⟩ := PyData.shownKv_key_le _ t ht
      exact Nat.le_trans hl (Nat.le_trans (dictText_mem_le hq) hz)
    obtain ⟨b2, rb2, k2⟩ := OwnL.rk I t n r2 hs2 fun t ht => by
      rw [← hd.2.2] at ht
      obtain ⟨q, hq, hl⟩ := PyData.shownKv_val_le _ t ht
      exact Nat.le_trans hl (Nat.le_trans (dictText_mem_le hq) hz)
    rw [← hd.2.1] at rb1 k1
    rw [← hd.2.2] at rb2 k2
    have hb := (rb1.mono (PyData.depthAll_keys_le _)).append (rb2.mono (PyData.depthAll_vals_le _))
    have hna : p ∉ b1 ++ b2 := not_mem_of_deeper rd (by simp only [PyData.depth]; omega) hb
    refine ⟨p :: (b1 ++ b2), ReadAtMost.cons rd (by simp only [PyData.depth]; omega) hb, ?_⟩
    rw [PyData.depth, PyData.shown, PyData.shownKv_eq]
    refine ReprK.dict h1 h2.1 h3 hsy hna (ReprEntriesK.of_two es.toList _ _ ?_ ?_)
    · rw [h4, List.map_map]
      exact k1.more_le (fun b hb => List.mem_append_left _ hb) (PyData.depthAll_keys_le _)
    · rw [h4, List.map_map]
      exact k2.more_le (fun b hb => List.mem_append_right _ hb) (PyData.depthAll_vals_le _)
theorem OwnL.rk (I : Inv X pins σ H s) : ∀ {F : List Addr} {vs : List V} {ds : List D} {us : List Value}, OwnL K G H F vs ds → D.noss ds = true → Vals vs us → PyData.showableAll (D.pys ds) = true → (∀ t ∈ PyData.shownAll (D.pys ds), t.length ≤ sizeLine) →
    ∃ bs, ReadAtMost s.heap (PyData.depthAll (D.pys ds)) bs ∧ ReprAllK X.prog X.w bs s.heap (PyData.depthAll (D.pys ds)) us (PyData.shownAll (D.pys ds))
  | _, _, _, _, .nil, _, r, _, _ => by cases r; rw [D.pys, PyData.shownAll]; exact ⟨[], (fun _ h => nomatch h), .nil⟩
  | _, _, _, _, .cons h t _, n, r, hs, hz => by
    rw [D.noss, Bool.and_eq_true] at n
    rw [D.pys] at hs hz ⊢
    rw [PyData.showableAll, Bool.and_eq_true] at hs
    rw [PyData.shownAll] at hz
    rw [PyData.shownAll, PyData.depthAll]
    cases r with
    | cons r1 r2 =>
      obtain ⟨b1, p1, q1⟩ := Own.rk I h n.1 r1 hs.1 (hz _ List.mem_cons_self)
      obtain ⟨b2, p2, q2⟩ := OwnL.rk I t n.2 r2 hs.2 fun t ht => hz t (List.mem_cons_of_mem _ ht)
      exact ⟨b1 ++ b2, (p1.mono (Nat.le_max_left _ _)).append (p2.mono (Nat.le_max_right _ _)), .cons ((q1.more fun b hb => List.mem_append_left _ hb).level_le (Nat.le_max_left _ _)) (q2.more_le (fun b hb => List.mem_append_right _ hb) (Nat.le_max_right _ _))⟩
end
end
end CW
/-! repr(x); tuple(l). -/
namespace CW
open PySem PySem.Spec PyProof.Rows L2
section
variable {X : Cx} {φ : FEnv} {ks : List Kd} {cl : Nat → Addr} {E : L2.St → XK} {m ma : Md} {eff ea : List Nat} {a : Expr} {a' : CW.E} {p pos : Pos}
theorem dct_ent {pins : List (Addr × Obj)} {σ : L2.St} {H : Hp} {s : Shared} {G : Addr → Prop} {Fp Fd : List Addr} {p : Addr} {kk : List (List Key)} {vs : List V} {ds : List D} (I : Inv X pins σ H s) (ow : Own X.K G H Fd (.ref p) (.dct kk ds)) (h : H p = some (.dT (kk.zip vs))) (l : kk.length = ds.length) (t : OwnL X.K G H Fp vs ds)
    (n : (D.dct kk ds).nos = true) (hs : (D.dct kk ds).py.showable = true) (hz : (D.dct kk ds).py.shown.length ≤ sizeLine) (hd : (D.dct kk ds).py.depth ≤ 64) :
    ∃ o es ep ps bs k, s.heap.get? p = some o ∧ o.cls = .type "dict" ∧ o.data = .dict es ep ∧ (p == sysModules) = false ∧ p ∉ bs ∧ ReprEntriesK X.prog X.w bs s.heap k es.toList ps ∧ dictText ps = (D.dct kk ds).py.shown ∧ k < 64 := by
  obtain ⟨_, hsy, xs, rel, o, es, ep, h1, h2, h3, h4, _⟩ := I.hok p _ h
  obtain ⟨as, rd⟩ := Own.rd I ow n rfl
  rw [D.nos] at n
  obtain ⟨_, r2⟩ := keys_reads I rel (by rw [t.len, l])
  have hp := dct_py (ks := kk) (ds := ds) l
  rw [hp.1] at hs hz rd hd ⊢
  obtain ⟨hs1, hs2⟩ := PyData.showableKv_split _ (by simpa [PyData.showable] using hs)
  rw [hp.2.1] at hs1
  rw [hp.2.2] at hs2
  rw [PyData.shown] at hz
  rw [PyData.depth] at hd
  obtain ⟨ka, kl⟩ := keys_at rel (by rw [t.len, l])
  obtain ⟨b1, rb1, k1⟩ := tkeys_rk I ka (by rw [List.length_map]; exact kl) hs1 fun t ht => by
    rw [← hp.2.1] at ht
    obtain ⟨q, hq, hl⟩ := PyData.shownKv_key_le _ t ht
    exact Nat.le_trans hl (Nat.le_trans (dictText_mem_le hq) hz)
  obtain ⟨b2, rb2, k2⟩ := OwnL.rk I t n r2 hs2 fun t ht => by
    rw [← hp.2.2] at ht
    obtain ⟨q, hq, hl⟩ := PyData.shownKv_val_le _ t ht
    exact Nat.le_trans hl (Nat.le_trans (dictText_mem_le hq) hz)
  rw [← hp.2.1] at rb1 k1
  rw [← hp.2.2] at rb2 k2
  have hb := (rb1.mono (PyData.depthAll_keys_le _)).append (rb2.mono (PyData.depthAll_vals_le _))
  have hna : p ∉ b1 ++ b2 := not_mem_of_deeper rd (by simp only [PyData.depth]; omega) hb
  refine ⟨o, es, ep, _, b1 ++ b2, PyData.depthKv ((kk.map fun k => PyData.tuple (k.map kyP)).zip (D.pys ds)), h1, h2.1, h3, hsy, hna, ReprEntriesK.of_two es.toList _ _ ?_ ?_, by rw [PyData.shown, PyData.shownKv_eq], by omega⟩
  · rw [h4, List.map_map]
    exact k1.more_le (fun b hb => List.mem_append_left _ hb) (PyData.depthAll_keys_le _)
  · rw [h4, List.map_map]
    exact k2.more_le (fun b hb => List.mem_append_right _ hb) (PyData.depthAll_vals_le _)
theorem call_rpr (gd : X.A.guards = some []) (hu : X.A.units + 70 < cLine) : CallR X (.builtin "repr") (fun xs H Q => ∃ (v : V) (d : D) (G : Addr → Prop) (Fp : List Addr), xs = [v] ∧ Own X.K G H Fp v d ∧ repOk d = true ∧ Q (.str d.py.shown) H) := by
  intro pins s σ H xs us Q I rr h
  obtain ⟨v, d, G, Fp, rfl, o, ok, q⟩ := h
  obtain ⟨u, rfl, r⟩ := vals1 rr
  rw [repOk_eq, repOk0] at ok
  simp only [Bool.and_eq_true, decide_eq_true_eq] at ok
  obtain ⟨⟨⟨n, hs⟩, hd⟩, hz⟩ := ok
  have fin : ∀ (x : Str), x = d.py.shown → ∀ h' t tk, (∀ b o, s.heap.get? b = some o → h'.get? b = some o) → EP X pins σ Q (.str x t) { s with heap := h', toks := tk } := fun x e h' t tk hk => ⟨.str d.py.shown, H, I.kept (t' := tk) hk, ⟨t, by rw [e]⟩, q⟩
  have clear : ∀ (bs : List Addr), ∀ b ∈ bs, Clear [] b := fun _ b _ => Clear.nil b
  cases o with
  | non =>
    cases (show u = Value.none from r)
    exact PySem.P.repr_of_none (fin _ (by rw [D.py, PyData.shown]) s.heap _ _ fun _ _ e => e)
  | bl =>
    cases (show u = Value.bool _ from r)
    exact PySem.P.repr_of_bool (fin _ (by rw [D.py, PyData.shown]) s.heap _ _ fun _ _ e => e)
  | int =>
    obtain ⟨t, e⟩ := (show ∃ t, u = Value.int _ t from r)
    cases e
    rw [D.py] at hs
    exact PySem.P.repr_of_int (by simpa [PyData.showable] using hs) (fin _ (by rw [D.py, PyData.shown]) s.heap _ _ fun _ _ e => e)
  | str =>
    obtain ⟨t, e⟩ := (show ∃ t, u = Value.str _ t from r)
    cases e
    rw [D.py, PyData.shown] at hz
    exact PySem.P.repr_of_str (fin _ (by rw [D.py, PyData.shown]) s.heap _ _ fun _ _ e => e) hz
  | scrR _ _ _ => rw [D.nos] at n; cases n
  | scrK _ _ => rw [D.nos] at n; cases n
  | tup h t z =>
    rename_i p vs ds
    cases (show u = Value.ref p from r)
    obtain ⟨_, its, rv, o, h1, h2, m, h3⟩ := I.hok p _ h
    obtain ⟨as, rd⟩ := Own.rd I (Own.tup h t z) n r
    rw [D.nos] at n
    rw [py_tup] at hs hz hd rd fin
    rw [PyData.shown] at hz fin
    rw [PyData.depth] at hd
    obtain ⟨bs, hb, hk⟩ := OwnL.rk I t n rv (by simpa [PyData.showable] using hs) fun t ht => Nat.le_trans (tupleText_mem_le ht) hz
    have hna : p ∉ bs := not_mem_of_deeper rd (by simp only [PyData.depth]; omega) hb
    refine call_repr_slot (by omega) ⟨o, h1, h2⟩ PySem.F.slot_tuple_repr ?_
    exact call_tuple_reprK h1 h2 h3 hna (by simpa using hk) (A := X.A.in1) gd (clear _) (by show X.A.units + 1 + _ < cLine; omega) (fun _ _ e => e) (fun h' u tk hk => ⟨_, _, rfl, fin _ rfl h' u tk hk⟩) hz
  | frz g h t z =>
    rename_i p vs ds
    cases (show u = Value.ref p from r)
    obtain ⟨_, its, m, rv, h1⟩ := I.hok p _ h
    obtain ⟨as, rd⟩ := Own.rd I (Own.frz g h t z) n r
    rw [D.nos] at n
    rw [py_list] at hs hz hd rd fin
    rw [PyData.shown] at hz fin
    rw [PyData.depth] at hd
    obtain ⟨bs, hb, hk⟩ := OwnL.rk I t n rv (by simpa [PyData.showable] using hs) fun t ht => Nat.le_trans (listText_mem_le ht) hz
    have hna : p ∉ bs := not_mem_of_deeper rd (by simp only [PyData.depth]; omega) hb
    refine call_repr_slot (by omega) ⟨_, h1, rfl⟩ PySem.F.slot_list_repr.toG ?_
    cases its with
    | nil =>
      generalize PyData.shownAll (D.pys ds) = ts at hk fin
      cases hk
      exact call_list_repr_empty ⟨_, h1, rfl⟩ h1 rfl ⟨_, _, rfl, fin _ listText_nil.symm s.heap _ _ fun _ _ e => e⟩
    | cons x l =>
      exact call_list_reprK h1 rfl rfl hna (by simpa using hk.length_eq) (fun i y e => hk.item i y (by simpa using e)) (A := X.A.in1) gd (clear _) (by show X.A.units + 1 + _ < cLine; omega) (fun _ _ e => e) (fun h' u tk hk => ⟨_, _, rfl, fin _ rfl h' u tk hk⟩) hz
  | lst h t g z =>
    rename_i p vs ds F1
    cases (show u = Value.ref p from r)
    obtain ⟨_, its, m, rv, h1⟩ := I.hok p _ h
    obtain ⟨as, rd⟩ := Own.rd I (Own.lst h t g z) n r
    rw [D.nos] at n
    rw [py_list] at hs hz hd rd fin
    rw [PyData.shown] at hz fin
    rw [PyData.depth] at hd
    obtain ⟨bs, hb, hk⟩ := OwnL.rk I t n rv (by simpa [PyData.showable] using hs) fun t ht => Nat.le_trans (listText_mem_le ht) hz
    have hna : p ∉ bs := not_mem_of_deeper rd (by simp only [PyData.depth]; omega) hb
    refine call_repr_slot (by omega) ⟨_, h1, rfl⟩ PySem.F.slot_list_repr.toG ?_
    cases its with
    | nil =>
      generalize PyData.shownAll (D.pys ds) = ts at hk fin
      cases hk
      exact call_list_repr_empty ⟨_, h1, rfl⟩ h1 rfl ⟨_, _, rfl, fin _ listText_nil.symm s.heap _ _ fun _ _ e => e⟩
    | cons x l =>
      exact call_list_reprK h1 rfl rfl hna (by simpa using hk.length_eq) (fun i y e => hk.item i y (by simpa using e)) (A := X.A.in1) gd (clear _) (by show X.A.units + 1 + _ < cLine; omega) (fun _ _ e => e) (fun h' u tk hk => ⟨_, _, rfl, fin _ rfl h' u tk hk⟩) hz
  | dfz g h l t z =>
    rename_i p kk vs ds
    cases (show u = Value.ref p from r)
    obtain ⟨o, es, ep, ps, bs, k, h1, h2, h3, h4, h5, h6, h7, h8⟩ := dct_ent I (Own.dfz g h l t z) h l t n hs hz hd
    refine call_repr_slot (by omega) ⟨o, h1, h2⟩ PySem.F.slot_dict_repr ?_
    exact call_dict_reprK h1 h2 h3 h4 h5 h6 (A := X.A.in1) gd (clear _) (by show X.A.units + 1 + _ < cLine; omega) (fun _ _ e => e) (fun h' u tk hk => ⟨_, _, rfl, fin _ h7 h' u tk hk⟩) (by rw [h7]; exact hz)
  | exn _ _ => simp [D.nos] at n
  | dct h l t g z =>
    rename_i p kk vs ds F1
    cases (show u = Value.ref p from r)
    obtain ⟨o, es, ep, ps, bs, k, h1, h2, h3, h4, h5, h6, h7, h8⟩ := dct_ent I (Own.dct h l t g z) h l t n hs hz hd
    refine call_repr_slot (by omega) ⟨o, h1, h2⟩ PySem.F.slot_dict_repr ?_
    exact call_dict_reprK h1 h2 h3 h4 h5 h6 (A := X.A.in1) gd (clear _) (by show X.A.units + 1 + _ < cLine; omega) (fun _ _ e => e) (fun h' u tk hk => ⟨_, _, rfl, fin _ h7 h' u tk hk⟩) (by rw [h7]; exact hz)

theorem snd_rpr (gd : X.A.guards = some []) (hu : X.A.units + 70 < cLine) (hg : Gl X "repr") (hn : X.mg "repr" = none) (hs : noStar a = true) (ha : SndE X φ ks cl E a a' ma ea) : SndE X φ ks cl E (.Call (.Name "repr" p) [a] [] pos) (.rpr a') .im ea := by
  obtain ⟨ta, pa, qa⟩ := ha
  refine ⟨_, pe_callB (call_rpr gd hu) hg hn (by decide +kernel) (pa_cons pa pa_nil (noStar_ok hs _)) (he := noStar_ok hs _), fun G H σ Γ Φ Q I h => ?_⟩
  simp only [evE] at h
  refine qa G H σ Γ Φ _ I (h.seq sub_all fun x Γ1 G1 H1 Φ1 v I1 s1 r1 h1 => ?_)
  obtain ⟨F1, r1, _⟩ := r1
  obtain ⟨z, ez, k⟩ := h1.fin (α := Unit) I1
  unfold rprD at ez
  split at ez
  · rename_i ok
    cases ez
    refine ⟨v, x, G1, F1, rfl, r1.own, ok, k H1 _ (fun _ _ h => h) (rel_im ?_)⟩
    rw [shownD_eq]
    exact .str
  · cases ez
theorem snd_tpl (hg : Gl X "tuple") (hn : X.mg "tuple" = none) (hs : noStar a = true) (hb : ma.bare = true) (ha : SndE X φ ks cl E a a' ma ea) : SndE X φ ks cl E (.Call (.Name "tuple" p) [a] [] pos) (.tpl false a') .sh ea := by
  obtain ⟨ta, pa, qa⟩ := ha
  refine ⟨_, pe_tupleOf hg hn pa (noStar_ok hs _), fun G H σ Γ Φ Q I h => ?_⟩
  simp only [evE] at h
  refine qa G H σ Γ Φ _ I (h.seq sub_all fun x Γ1 G1 H1 Φ1 v I1 s1 r1 h1 => ?_)
  obtain ⟨F1, r1, _⟩ := r1
  obtain ⟨z, ez, k⟩ := h1.fin (α := Unit) I1
  cases x <;> first | (cases ez; done) | skip
  rename_i ds
  have ez : some (D.tup ds) = some z := ez
  cases ez
  have r2 := r1.own
  obtain ⟨q, us, F', rfl, hp, o1, f1, l1⟩ := r2.seq
  have e0 : F' = [] := nil_of f1 (r1.bare hb)
  subst e0
  refine .inl ⟨q, us, rfl, SqL.of hp, fun q hq => ?_⟩
  exact k _ _ (upd_ex hq) ⟨[], ⟨rfl, .tup upd_same (o1.ex (upd_ex hq)) l1⟩, fun h => nomatch h⟩
theorem y_rpr {lv : Nat} (gd : X.A.guards = some []) (hr : Room lv X.A) (hn : X.mg "repr" = none) (ha : SndE X φ ks cl E a a' ma ea) (hg : Gl X "repr" := by rfl) (hs : noStar a = true := by rfl) : SndE X φ ks cl E (.Call (.Name "repr" p) [a] [] pos) (.rpr a') .im ea := snd_rpr gd (by have := hr.un; omega) hg hn hs ha
theorem y_tpl (hn : X.mg "tuple" = none) (ha : SndE X φ ks cl E a a' ma ea) (hb : ma.bare = true := by rfl) (hg : Gl X "tuple" := by rfl) (hs : noStar a = true := by rfl) : SndE X φ ks cl E (.Call (.Name "tuple" p) [a] [] pos) (.tpl false a') .sh ea := snd_tpl hg hn hs hb ha
end
end CW
/-! A caught exception that stays: try .. except C as e: x = e. -/
namespace CW
open PySem L2 PySem.Spec PyProof.Rows
section
variable {X : Cx} {pins : List (Addr × Obj)} {H : Hp} {s : Shared} {σ : L2.St}
/-- an object that stands already, from now on tracked -/
theorem inv_track {p : Addr} {o : HO} (I : Inv X pins σ H s) (free : H p = none) (fresh : X.s_0.heap.get? p = none) (notL : p ≠ X.env.locals) (noCell : ∀ v, ¬ s.heap.IsCell p v) (unpinned : ∀ q ∈ X.pn ++ pins, q.1 ≠ p)
    (new : ObjOk X.prog X.w (upd H p o) s.heap p o) : Inv X pins σ (upd H p o) s := by
  have old : ∀ b u, X.s_0.heap.get? b = some u → upd H p o b = H b := fun b u e => upd_ne fun q => by
    rw [q, fresh] at e
    cases e
  have had : ∀ b u, H b = some u → upd H p o b = some u := fun b u e => by
    rw [upd_ne (ne_of_none e free)]
    exact e
  have I0 := I.base
  refine ⟨I.ok, I.os, I.bare, ⟨I0.keep, I0.slot, fun b u e n hx => ?_, I0.there, fun b xs q => had b _ (I0.tups b xs q), fun b u xs q => had b _ (I0.frzs b u xs q), fun b ps q => ?_⟩, I.loc, I.cell, ?_, fun y c e => ?_, fun q hq => ?_, I.hok.laidN (fun _ _ h => h) free new, I.len⟩
  · rw [old b u e]
    exact I0.free b u e n hx
  · obtain ⟨m, z⟩ := I0.tbls b ps q
    exact ⟨m, had b _ z⟩
  · rw [upd_ne notL.symm]
    exact I.free
  · rw [upd_ne fun z => ?_]
    · exact I.freeC y c e
    · obtain ⟨v, k⟩ := I.cell y c e
      exact noCell v (z ▸ k)
  · obtain ⟨a1, a2, a3, a4, a5⟩ := I.pin q hq
    exact ⟨a1, by rw [upd_ne (unpinned q hq)]; exact a2, a3, a4, a5⟩
theorem exK_ok {P : Program} {w : World} {h : Heap} {a : Addr} {cls : Value} {oe : Obj} {vs : Array Value} (e : h.get? a = some oe) (z : Zc cls none oe) (d : oe.data = .fields vs) : ObjOk P w H h a (ExK cls a) :=
  ⟨⟨oe, vs, e, z, d⟩, ⟨oe, e⟩, fun _ _ ⟨o, v, q, r⟩ k => ⟨o, v, k o q, r⟩⟩
/-- what is wished of an exception that the clause keeps in slot j, its own name being slot i -/
def wKeep (i j : Nat) (ok : Value → Prop) (D : Ends) : WX := fun cls d τ H' => ok cls ∧ d = none ∧ ∀ a, H' a = none → D.nx ((τ.set j (some (.ref a))).set i none) (upd H' a (ExK cls a))
theorem keeps {n m ce : Str} {i j : Nat} {C : Value} {np p1 p2 p3 p4 : Pos} {ok : Value → Prop} {D : Ends} (hs : X.stack = X.env :: X.outer) (hf : X.env.frame = some X.env.locals) (hex : X.ex = []) (hN : X.N.Nodup) (hi : X.N[i]? = some n) (hj : X.N[j]? = some m)
    (kn : X.env.kindOf n = some .local) (km : X.env.kindOf m = some .local) (hC : Names X ce C) (dn : (n == ("__debug__" : Str)) = false) (dc : (n == ("__classdict__" : Str)) = false) (hm : ∀ cls, ok cls → PySem.W.exmOne X.K cls C = some true) (okX : X.Ok) {u : Value} {s' : Shared} {xe : Value → Shared → Prop}
    (xx : XE (X.tr (X.pn ++ pins) xe) (wKeep i j ok D) u s') :
    wpAny (model X.prog X.w) X.A (noteFrame u X.env) (fun _ t => wpAny (model X.prog X.w) X.A (setFlight u none) (fun _ t' =>
      wpAny (model X.prog X.w) X.A (handleBy u X.env [.ExceptHandler (some (.Name ce np)) (some n) [.Assign [.Name m p1] (.Name n p2) p3] p4]) (SP X pins D) X.xe t') X.xe t) X.xe s' := by
  obtain ⟨a, B, sI, pins', τ, H', cls, d, rfl, Jt, nb, up, sky, na, os, ag, good, hd, go⟩ := xx
  subst hd
  have J : Inv X pins τ H' sI := Jt.ofTry okX
  have frames : X.A.frames = some (X.env :: X.outer) := okX.frames.trans (congrArg some hs)
  have sky0 : Sky B (X.env :: X.outer) a (Zc cls none) X.env.locals s'.heap := hs ▸ sky
  refine Sky.land Zc.steady frames hf sky0 fun h1 f1 u1 => ?_
  have J1 : Inv X pins τ H' { s' with heap := h1 } := J.landed nb f1.1 (up.trans u1) os ag
  obtain ⟨o1, v1, g1, z1, d1⟩ := f1.there
  have notFrame : a ∉ frs (X.env :: X.outer) := fun hm => by
    obtain ⟨_, o', e', nf⟩ := f1.2.2.1.mem hm
    rw [g1] at e'
    cases e'
    exact nf _ d1
  have notL : a ≠ X.env.locals := fun z => notFrame (List.mem_filterMap.mpr ⟨X.env, List.mem_cons_self, by rw [hf, z]⟩)
  have notF : a ∉ X.fs := fun hm => by
    obtain ⟨e, he, q⟩ := List.mem_filterMap.mp hm
    exact notFrame (List.mem_filterMap.mpr ⟨e, List.mem_cons_of_mem _ he, q⟩)
  have newI : sI.heap.get? a = none := by
    cases e : sI.heap.get? a with
    | none => rfl
    | some o =>
      have := nb a o e (by show a ∉ frs X.stack; rw [hs]; exact notFrame)
      rw [f1.2.1] at this
      cases this
  have new0 : X.s_0.heap.get? a = none := by
    cases e : X.s_0.heap.get? a with
    | none => rfl
    | some o =>
      obtain ⟨o', q⟩ := J.base.there a o e (by rw [hex]; exact fun z => nomatch z)
      rw [newI] at q
      cases q
  have unp : ∀ q ∈ X.pn ++ pins, q.1 ≠ a := fun q hq z => by
    have q1 := (J.pin q hq).1
    rw [z, newI] at q1
    cases q1
  refine wpAny_handleBy_cons (codeAny_handlers_test ?_) (by intro q; cases q)
  have T1 := J1.suite g1 d1 na notL notF
  have ty1 : PySem.W.Looks (model X.prog X.w) h1 (typeOf (.ref a)) cls := fun _ _ _ _ k q => wpAny_typeOf_ref (k _ _ g1) (by rw [z1.1]; exact q)
  have is1 := PySem.W.exm_one (M := model X.prog X.w) J1.kIn ty1 (hm cls good)
  have named : ∀ {Q : Value → Shared → Prop} {E : Value → Shared → Prop}, Q C { s' with heap := h1 } → wpAny (model X.prog X.w) (X.A.mark (some (.ref a))) (eval (.Name ce np) X.env) Q E { s' with heap := h1 } := fun {Q E} q => by
    obtain ⟨gl, db, w | ⟨w, bv, nn⟩⟩ := hC
    · exact ld_glob (X := X.suite a ((a, o1) :: (X.pn ++ pins))) T1 gl w q db
    · exact ld_blt (X := X.suite a ((a, o1) :: (X.pn ++ pins))) T1 gl w bv q nn db
  refine named (is1.here (codeAny_handlers_suite_as ?_))
  refine HandSPX.lands_againZ f1 fun h2 f2 u2 => ?_
  have J2 : Inv X pins τ H' { s' with heap := h2 } := J.landed nb f2.1 ((up.trans u1).trans u2) os ag
  obtain ⟨o2, v2, g2, z2, d2⟩ := f2.there
  have T2 := J2.suite g2 d2 na notL notF
  refine store_ok (X := X.suite a ((a, o2) :: (X.pn ++ pins))) (v := .ref a) T2 hN hi (.inl kn) rfl (fun s5 T5 => ?_) (.inr kn)
  have readN : PE (X.suite a ((a, o2) :: (X.pn ++ pins))) (.Name n p2) (tVar i) := pe_var hi (.inl kn) dn dc
  have sets : PS (X.suite a ((a, o2) :: (X.pn ++ pins))) (.Assign [.Name m p1] (.Name n p2) p3) (tAsg (tVar i) (gName j)) := ps_set hN hj (.inl km) readN rfl (.inr km)
  have li : i < τ.length := by
    rw [J.len]
    exact (List.getElem?_eq_some_iff.mp hi).1
  refine wpAny_mono ((pss_one sets).run [] s5 _ H' { nx := fun τ' H2 => τ' = (τ.set i (some (.ref a))).set j (some (.ref a)) ∧ H2 = H', rt := fun _ _ => False } T5 ⟨.ref a, List.getElem?_set_self li, rfl, rfl⟩) (fun f s6 hsp => ?_) (fun _ _ z => False.elim z)
  cases f with
  | next =>
    obtain ⟨τ6, H6, T6, rfl, rfl⟩ := hsp
    have J6 : Inv X ((a, o2) :: pins) ((τ.set i (some (.ref a))).set j (some (.ref a))) H6 s6 :=
      ⟨okX, T6.os, T6.bare, T6.base, T6.loc, T6.cell, T6.free, T6.freeC, fun q hq => T6.pin q (List.mem_append_left _ (by
        rcases List.mem_append.mp hq with h | h
        · exact List.mem_cons_of_mem _ (List.mem_append_left _ h)
        · rcases List.mem_cons.mp h with h | h
          · exact h ▸ List.mem_cons_self
          · exact List.mem_cons_of_mem _ (List.mem_append_right _ h))), T6.hok, T6.len⟩
    refine gone_ok J6 hN hi kn fun s7 J7 => ?_
    have pinA := J7.pin (a, o2) (List.mem_append_right _ List.mem_cons_self)
    have J8 : Inv X pins (((τ.set i (some (.ref a))).set j (some (.ref a))).set i none) H6 s7 :=
      ⟨J7.ok, J7.os, J7.bare, J7.base, J7.loc, J7.cell, J7.free, J7.freeC, fun q hq => J7.pin q (by
        rcases List.mem_append.mp hq with h | h
        · exact List.mem_append_left _ h
        · exact List.mem_append_right _ (List.mem_cons_of_mem _ h)), J7.hok, J7.len⟩
    have J9 := inv_track (o := ExK cls a) J8 na new0 notL (fun v ⟨o, ho, hd⟩ => by
      rw [pinA.1] at ho
      cases ho
      exact pinA.2.2.2.2 v hd) unp (exK_ok pinA.1 z2 d2)
    refine ⟨_, _, J9, ?_⟩
    have q := go a na
    by_cases hij : i = j
    · subst hij
      rw [List.set_set, List.set_set]
      rw [List.set_set] at q
      exact q
    · rw [List.set_comm _ _ (fun z => hij z), List.set_set]
      exact q
  | brk =>
    obtain ⟨_, _, _, z⟩ := hsp
    exact z.elim
  | cont =>
    obtain ⟨_, _, _, z⟩ := hsp
    exact z.elim
  | ret u =>
    obtain ⟨_, _, _, _, _, z⟩ := hsp
    exact z.elim
end
end CW
/-! try .. except ClimbError as e: x = e; raise; isinstance of a caught exception. -/
namespace CW
open PySem L2
/-- a class whose exceptions are raised -/
structure ExcF (K : PySem.W.Frag) (mg : Str → Option Value) (c : Nat) (A CE : Addr) : Prop where
  g : mg (exN c) = some (.ref A)
  ix : ClsIx K c A
  x : PySem.W.excIn K A [.type "ValueError", .type "Exception", .type "BaseException", .type "object"] "ValueError.__new__" = true
  k : PySem.W.keepIn K (.ref A) = true
  b : PySem.W.subIn K (.ref A) (.type "BaseException") = some true
  t : PySem.W.typeIn K (.ref A) = some (.type "type")
  o : ExcC K A
  e : PySem.W.exmOne K (.ref A) (.ref CE) = some true
/-- a class that isinstance is asked about -/
structure AskF (K : PySem.W.Frag) (mg : Str → Option Value) (d : Nat) (A : Addr) : Prop where
  g : mg (exN d) = some (.ref A)
  n : PySem.W.kitOne K (.type "NoneType") (.ref A) = some false
theorem ClsIx.one {K : PySem.W.Frag} {c : Nat} {A B : Addr} (h : ClsIx K c A) (h' : ClsIx K c B) : A = B := by
  unfold ClsIx at h h'
  rw [h] at h'
  cases h'
  rfl
section
variable {X : Cx} {φ : FEnv} {ks : List Kd} {cl : Nat → Addr} {E : L2.St → XK} {rm : Md} {G G1 G2 G' : Addr → Prop} {H H0 H' H1 H2 : Hp} {σ σ1 σ2 : L2.St} {Γ Γ1 Γ2 Γ' : Env} {Φ Φ0 Φ1 Φ2 Φ' : Nat → List Addr}
variable {ma : Md} {eff ea w : List Nat} {a : Expr} {a' : CW.E} {ss : List S} {body : List Stmt}
theorem own_exn {K : PySem.W.Frag} {F : List Addr} {v : V} {c : Nat} (h : Own K G H F v (.exn c)) : ∃ p A, v = .ref p ∧ H p = some (ExK (.ref A) p) ∧ ClsIx K c A := by
  cases h with
  | exn h1 h2 => exact ⟨_, _, rfl, h1, h2⟩
theorem SI.unset {K : PySem.W.Frag} (I : SI K ks G H σ Γ Φ) {i : Nat} (h : ∀ d, Γ[i]? ≠ some (some d)) : SI K ks G H (σ.set i none) Γ Φ :=
  ⟨by rw [List.length_set]; exact I.len, by rw [List.length_set]; exact I.kl, fun j d hj => by
    have hji : j ≠ i := fun q => by
      subst q
      exact h d hj
    rw [List.getElem?_set_ne hji.symm]
    exact I.slot j d hj, I.non, I.sh, I.os, I.dis, I.gd, I.gl⟩
theorem snd_tryK {n m ce : Str} {i x : Nat} {cs : List Nat} {CE : Addr} {np p1 p2 p3 p4 p5 : Pos} (hs : X.stack = X.env :: X.outer) (hf : X.env.frame = some X.env.locals) (hex : X.ex = []) (nd : X.N.Nodup) (hi : X.N[i]? = some n) (hx : X.N[x]? = some m)
    (kn : X.env.kindOf n = some .local) (km : X.env.kindOf m = some .local) (dn : (n == ("__debug__" : Str)) = false) (dc : (n == ("__classdict__" : Str)) = false) (hC : Names X ce (.ref CE)) (fx : (kd ks x).fr = true)
    (hm : ∀ c ∈ cs, PySem.W.exmOne X.K (.ref (cl c)) (.ref CE) = some true ∧ ClsIx X.K c (cl c))
    (hb : ∀ (W : WX) (pn : List (Addr × Obj)) (xe : Value → Shared → Prop), Takes (X.tr pn xe) W → PassesOwn (model X.prog X.w) X.A X.env xe → SndSs (X.tr pn xe) φ ks cl (fun τ cls d H => W cls d τ H) rm body ss eff w) :
    SndS X φ ks cl E rm (.Try body [.ExceptHandler (some (.Name ce np)) (some n) [.Assign [.Name m p1] (.Name n p2) p3] p4] [] [] p5) (.tryK x i cs ss) (eff ++ [x, i]) (w ++ [x, i]) := by
  refine ⟨fun D σ H => ∃ G Γ Φ, SI X.K ks G H σ Γ Φ ∧ DenS X ks cl E rm (eff ++ [x, i]) (w ++ [x, i]) (evS φ (.tryK x i cs ss) Γ) G H σ Γ Φ D, ⟨fun pins s σ H D I ⟨G, Γ, Φ, J, h⟩ => ?_⟩, fun G H σ Γ Φ D0 J h => ⟨G, Γ, Φ, J, h⟩⟩
  have okX := I.ok
  refine wpAny_Try_except ?_
  have good : ∀ cls : Value, (∃ c ∈ cs, cls = .ref (cl c)) → PySem.W.exmOne X.K cls (.ref CE) = some true := fun cls ⟨c, hc, e⟩ => by
    rw [e]
    exact (hm c hc).1
  obtain ⟨t, pt, qt⟩ := hb (wKeep i x (fun cls => ∃ c ∈ cs, cls = .ref (cl c)) D) (X.pn ++ pins) (fun u t0 => wpAny (model X.prog X.w) X.A (noteFrame u X.env) (fun _ t => wpAny (model X.prog X.w) X.A (setFlight u none) (fun _ t' => wpAny (model X.prog X.w) X.A (handleBy u X.env [.ExceptHandler (some (.Name ce np)) (some n) [.Assign [.Name m p1] (.Name n p2) p3] p4]) (SP X pins D) X.xe t') X.xe t) X.xe t0) (fun u s' xx => keeps (p1 := p1) (p2 := p2) (p3 := p3) (p4 := p4) (np := np) hs hf hex nd hi hx kn km hC dn dc good okX xx) PassesOwn.looking
  have want : ∀ xe, DenS (X.tr (X.pn ++ pins) xe) ks cl (fun τ cls d H => wKeep i x (fun cls => ∃ c ∈ cs, cls = .ref (cl c)) D cls d τ H) rm eff w (evSs φ ss Γ) G H σ Γ Φ D := fun xe => by
    simp only [evS] at h
    cases hr : evSs φ ss Γ with
    | nx Γ' =>
      rw [hr] at h
      exact fun G' H' σ' Φ' I' s' ag => h G' H' σ' Φ' I' (s'.wider fun _ z => List.mem_append_left _ z) (ag.wider fun _ z => List.mem_append_left _ z)
    | rt d Γ' =>
      rw [hr] at h
      exact h.elim
    | bk Γ' =>
      rw [hr] at h
      exact h.elim
    | bad =>
      rw [hr] at h
      exact h.elim
    | exc c Γ1 =>
      rw [hr] at h
      by_cases hc : c ∈ cs
      · have e : SR.caught (.exc c Γ1) x i cs = .nx ((put Γ1 x (.exn c)).set i none) := by
          simp only [SR.caught]
          rw [if_pos hc]
        rw [e] at h
        intro G' H' σ' Φ' I' s' ag
        refine ⟨⟨c, hc, rfl⟩, rfl, fun a na => ?_⟩
        have up := upd_ex (o := ExK (.ref (cl c)) a) na
        have I1 := I'.grow up
        have lx : x < σ'.length := by
          rw [← I'.len]
          have := (List.getElem?_eq_some_iff.mp hx).1
          have l := I.len
          rw [← J.len] at l
          have l2 : Γ1.length = Γ.length := by rw [I'.len, ← I'.kl, J.kl, J.len]
          omega
        have o : Own X.K ((kd ks x).g G') (upd H' a (ExK (.ref (cl c)) a)) [] (.ref a) (.exn c) := .exn upd_same (hm c hc).2
        have I2 := I1.put lx o (fun _ => rfl) (fun z => by rw [z] at fx; cases fx) Tmp.nil
        have I3 := I2.drop i
        have li : (Γ1.set x (some (.exn c))).length = (Γ1.set x (some (.exn c))).length := rfl
        have I4 := I3.unset (i := i) (fun d z => by
          rw [List.getElem?_set] at z
          simp at z)
        refine h _ _ _ _ I4 ?_ ?_
        · have t1 : Step (eff ++ ([] ++ ([x] ++ [i]))) G H Φ Γ G' (upd H' a (ExK (.ref (cl c)) a)) (pu (pu Φ' x []) i []) ((put Γ1 x (.exn c)).set i none) :=
            s'.trans ((Step.grow up).trans ((Step.putS (F := []) (fun _ z => nomatch z) (List.mem_singleton.mpr rfl)).trans (Step.drop i)))
          exact t1
        · intro j hj
          have n1 : j ≠ x := fun z => hj (by rw [z]; simp)
          have n2 : j ≠ i := fun z => hj (by rw [z]; simp)
          rw [List.getElem?_set_ne n2.symm, List.getElem?_set_ne n1.symm]
          exact ag j fun z => hj (List.mem_append_left _ z)
      · have e : SR.caught (.exc c Γ1) x i cs = .bad := by
          simp only [SR.caught]
          rw [if_neg hc]
        rw [e] at h
        exact h.elim
  refine wpAny_mono (pt.run [] s σ H D (I.toTry _) (qt G H σ Γ Φ D J (want _))) (fun f s1 hsp => ?_) (fun _ _ z => z)
  cases f with
  | next =>
    obtain ⟨σ', H', J', q⟩ := hsp
    exact wpAny_execs_nil ⟨σ', H', J'.ofTry okX, q⟩
  | brk =>
    obtain ⟨σ', H', J', q⟩ := hsp
    exact ⟨σ', H', J'.ofTry okX, q⟩
  | cont =>
    obtain ⟨σ', H', J', q⟩ := hsp
    exact ⟨σ', H', J'.ofTry okX, q⟩
  | ret u =>
    obtain ⟨v, σ', H', J', r, q⟩ := hsp
    exact ⟨v, σ', H', J'.ofTry okX, r, q⟩
theorem y_tryK (x i : Nat) (cs : List Nat) {n m ce : Str} {CE : Addr} {np p1 p2 p3 p4 p5 : Pos} (nd : X.N.Nodup) (hC : X.mg ce = some (.ref CE)) (hm : ∀ c ∈ cs, PySem.W.exmOne X.K (.ref (cl c)) (.ref CE) = some true ∧ ClsIx X.K c (cl c))
    (hb : ∀ (W : WX) (pn : List (Addr × Obj)) (xe : Value → Shared → Prop), Takes (X.tr pn xe) W → PassesOwn (model X.prog X.w) X.A X.env xe → SndSs (X.tr pn xe) φ ks cl (fun τ cls d H => W cls d τ H) rm body ss eff w)
    (hs : X.stack = X.env :: X.outer := by rfl) (hf : X.env.frame = some X.env.locals := by rfl) (hex : X.ex = [] := by rfl) (hi : X.N[i]? = some n := by rfl) (hx : X.N[x]? = some m := by rfl)
    (kn : X.env.kindOf n = some .local := by rfl) (km : X.env.kindOf m = some .local := by rfl) (dn : (n == ("__debug__" : Str)) = false := by decide) (dc : (n == ("__classdict__" : Str)) = false := by decide) (de : (ce == ("__debug__" : Str)) = false := by decide) (hg : Gl X ce := by rfl) (fx : (kd ks x).fr = true := by rfl) :
    SndS X φ ks cl E rm (.Try body [.ExceptHandler (some (.Name ce np)) (some n) [.Assign [.Name m p1] (.Name n p2) p3] p4] [] [] p5) (.tryK x i cs ss) (eff ++ [x, i]) (w ++ [x, i]) :=
  snd_tryK hs hf hex nd hi hx kn km dn dc ⟨hg, de, .inl hC⟩ fx hm hb
theorem y_raise {c : Nat} {CE : Addr} {x m : Str} {j : Nat} {p p2 q pos : Pos} (F : ExcF X.K X.mg c (cl c) CE) (tk : Takes X fun cls d σ H => E σ cls d H) (hx : x = exN c := by rfl) (hg : Gl X x := by rfl) (hc : X.calm = true := by rfl) (hdb : (x == ("__debug__" : Str)) = false := by decide) :
    SndS X φ ks cl E rm (.Raise (some (.Call (.Name x p) [.Constant (.str m) j p2] [] q)) none pos) (.raise c) [] [] :=
  snd_raise hc tk (pmk_own PySem.F.excBase_ValueError F.x (by rw [hx]; exact F.g) F.k (raises_own F.b F.t) hg hdb)
/-! ### isinstance -/
def rIsX (K : PySem.W.Frag) : List V → Hp → VK → Prop := fun xs H Q => ∃ (y c : V) (u : Value) (b : Bool), xs = [y, c] ∧ ClsV c u ∧ ((y = .non ∧ PySem.W.kitOne K (.type "NoneType") u = some b) ∨ ∃ p A, y = .ref p ∧ H p = some (ExK (.ref A) p) ∧ ExcC K A ∧ PySem.W.kitOne K (.ref A) u = some b) ∧ Q (.bl b) H
theorem call_isx {X : Cx} : CallR X (.builtin "isinstance") (rIsX X.K) := by
  intro pins s σ H xs us Q I r h
  obtain ⟨y, c, cv, b, rfl, kc, h, q⟩ := h
  cases r with
  | cons ry rr =>
    cases rr with
    | cons rc rr =>
      cases rr
      have ec := kc.eq rc
      subst ec
      rcases h with ⟨rfl, e⟩ | ⟨p, A, rfl, hp, C, e⟩
      · cases (show _ = Value.none from ry)
        exact PySem.W.kia_one PySem.W.kitx_none I.kIn True.intro e (fun z => nomatch z) fun tk => ⟨.bl b, H, I.tok tk, rfl, q⟩
      · cases (show _ = Value.ref p from ry)
        obtain ⟨⟨oe, vs, ho, hz, hd⟩, _, _⟩ := I.hok p _ hp
        have J : PySem.W.InstAt s.heap p oe A none := by
          obtain ⟨oc, oo, od, os⟩ := oe
          obtain ⟨z1, z2⟩ := hz
          dsimp only at z1 z2 hd
          subst z1 z2 hd
          exact ⟨ho, rfl, rfl, trivial⟩
        exact PySem.W.kia_one (PySem.W.handS_kitx_exc C.hg C.hk C.hs C.hd C.ha C.hn C.ht C.hm) I.kIn J e (fun z => nomatch z) fun tk => ⟨.bl b, H, I.tok tk, rfl, q⟩
theorem snd_isx {T : Str} {ys ns : List Nat} {c : V} {u : Value} {p p2 pos : Pos} (hg : Gl X "isinstance") (hn : X.mg "isinstance" = none) (pt : PE X (.Name T p2) (tC c)) (kc : ClsV c u) (hs : noStar a = true) (ha : SndE X φ ks cl E a a' ma ea)
    (h0 : PySem.W.kitOne X.K (.type "NoneType") u = some false) (hy : ∀ k ∈ ys, ∃ A, ClsIx X.K k A ∧ ExcC X.K A ∧ PySem.W.kitOne X.K (.ref A) u = some true) (hno : ∀ k ∈ ns, ∃ A, ClsIx X.K k A ∧ ExcC X.K A ∧ PySem.W.kitOne X.K (.ref A) u = some false) :
    SndE X φ ks cl E (.Call (.Name "isinstance" p) [a, .Name T p2] [] pos) (.isx ys ns a') .im ea := by
  obtain ⟨t, pa, qa⟩ := ha
  refine ⟨_, pe_callB call_isx hg hn (by decide +kernel) (pa_cons pa (pa_cons pt pa_nil) (noStar_ok hs _)) (he := noStar_ok hs _), fun G H σ Γ Φ Q I h => ?_⟩
  simp only [evE] at h
  refine qa G H σ Γ Φ _ I (DenR.seq (k := fun d Γ => R.ofo (isxD ys ns d) Γ) (e := ea) (rel := RelE X .im ea H Φ) h sub_all fun d Γ1 G1 H1 Φ1 v I1 s1 r1 h1 => ?_)
  obtain ⟨F, r1, _⟩ := r1
  cases d with
  | non =>
    have o := r1.own
    cases o
    exact ⟨.non, c, u, false, rfl, kc, .inl ⟨rfl, h0⟩, DenR.here h1 I1 (rel_im .bl)⟩
  | exn k =>
    obtain ⟨q, A, rfl, hp, ix⟩ := own_exn r1.own
    simp only [isxD] at h1
    by_cases k1 : k ∈ ys
    · rw [if_pos k1] at h1
      obtain ⟨B, i1, C, e⟩ := hy k k1
      have := ix.one i1
      subst this
      exact ⟨.ref q, c, u, true, rfl, kc, .inr ⟨q, A, rfl, hp, C, e⟩, DenR.here h1 I1 (rel_im .bl)⟩
    · rw [if_neg k1] at h1
      by_cases k2 : k ∈ ns
      · rw [if_pos k2] at h1
        obtain ⟨B, i1, C, e⟩ := hno k k2
        have := ix.one i1
        subst this
        exact ⟨.ref q, c, u, false, rfl, kc, .inr ⟨q, A, rfl, hp, C, e⟩, DenR.here h1 I1 (rel_im .bl)⟩
      · rw [if_neg k2] at h1
        exact h1.elim
  | bl _ => exact h1.elim
  | int _ => exact h1.elim
  | str _ => exact h1.elim
  | tup _ => exact h1.elim
  | lst _ => exact h1.elim
  | scr _ => exact h1.elim
  | dct _ _ => exact h1.elim
theorem y_isx {ys ns : List Nat} {p p2 pos : Pos} {d : Nat} {T : Str} {A : Addr} (F : AskF X.K X.mg d A) (hn : X.mg "isinstance" = none) (ha : SndE X φ ks cl E a a' ma ea) (hy : ∀ k ∈ ys, ∃ B, ClsIx X.K k B ∧ ExcC X.K B ∧ PySem.W.kitOne X.K (.ref B) (.ref A) = some true) (hno : ∀ k ∈ ns, ∃ B, ClsIx X.K k B ∧ ExcC X.K B ∧ PySem.W.kitOne X.K (.ref B) (.ref A) = some false)
    (hT : T = exN d := by rfl) (hg : Gl X "isinstance" := by rfl) (hg2 : Gl X T := by rfl) (hs : noStar a = true := by rfl) (hd : (T == ("__debug__" : Str)) = false := by decide) :
    SndE X φ ks cl E (.Call (.Name "isinstance" p) [a, .Name T p2] [] pos) (.isx ys ns a') .im ea :=
  snd_isx hg hn (pe_glob (v := .ref A) (u := .ref A) hg2 (by rw [hT]; exact F.g) rfl hd) (.own A) hs ha F.n hy hno
theorem y_isv {ys : List Nat} {p p2 pos : Pos} (hv : X.mg "ValueError" = none) (hn : X.mg "isinstance" = none) (ha : SndE X φ ks cl E a a' ma ea) (hy : ∀ k ∈ ys, ∃ B, ClsIx X.K k B ∧ ExcC X.K B ∧ PySem.W.kitOne X.K (.ref B) (.type "ValueError") = some true)
    (hg : Gl X "isinstance" := by rfl) (hg2 : Gl X "ValueError" := by rfl) (hs : noStar a = true := by rfl) :
    SndE X φ ks cl E (.Call (.Name "isinstance" p) [a, .Name "ValueError" p2] [] pos) (.isx ys [] a') .im ea :=
  snd_isx hg hn (pe_bltn (v := .ty "ValueError") (u := .type "ValueError") hg2 hv (by decide +kernel) rfl (by decide) (by decide)) (.ty "ValueError") hs ha (kit_ty (by decide +kernel)) hy (fun _ h => nomatch h)
end
/-- the addresses of the classes, by number -/
def exCl (l : List Addr) (n : Nat) : Addr := l.getD n 0
theorem kit_ref {K : PySem.W.Frag} {t : Value} {C : Addr} {b : Bool} (hd : PySem.W.hasDictIn K C = true) (ht : PySem.W.typeIn K (.ref C) = some (.type "type")) (hs : PySem.W.subIn K t (.ref C) = some b) (ne : t ≠ .ref C) : PySem.W.kitOne K t (.ref C) = some b := by
  obtain ⟨cd, hc, _⟩ := PySem.W.any_some hd
  have e1 : ((PySem.W.clsIn K C).isSome && PySem.W.typeIn K (.ref C) == some (.type "type")) = true := by rw [hc, ht]; rfl
  unfold PySem.W.kitOne
  rw [if_neg (fun z => ne (beq_iff_eq.mp z))]
  show (if ((PySem.W.clsIn K C).isSome && PySem.W.typeIn K (.ref C) == some (.type "type")) = true then PySem.W.subIn K t (.ref C) else none) = some b
  rw [if_pos e1]
  exact hs
theorem kit_self {K : PySem.W.Frag} {t : Value} : PySem.W.kitOne K t t = some true := by
  unfold PySem.W.kitOne
  rw [if_pos (beq_iff_eq.mpr rfl)]
theorem kit_ve {K : PySem.W.Frag} {C : Addr} {b : Bool} (hs : PySem.W.subIn K (.ref C) (.type "ValueError") = some b) : PySem.W.kitOne K (.ref C) (.type "ValueError") = some b := by
  unfold PySem.W.kitOne
  rw [if_neg (fun z => by cases beq_iff_eq.mp z)]
  show (if PySem.W.kitMeta "ValueError" = true then PySem.W.subIn K (.ref C) (.type "ValueError") else none) = some b
  rw [if_pos (by decide +kernel)]
  exact hs
theorem ne_refs {a b : Addr} (h : a ≠ b) : Value.ref a ≠ .ref b := fun z => h (by cases z; rfl)
theorem ex_nil {α : Type} {p : α → Prop} : ∀ c ∈ ([] : List α), p c := fun _ h => nomatch h
theorem ex_cons {α : Type} {p : α → Prop} {a : α} {l : List α} (h : p a) (t : ∀ c ∈ l, p c) : ∀ c ∈ a :: l, p c := fun c hc => by
  rcases List.mem_cons.mp hc with rfl | hc
  · exact h
  · exact t c hc
end CW
/-! Own temporaries: an item taken out, two lists joined, a list once or not at all. -/
namespace CW
open PySem L2
section
variable {X : Cx} {φ : FEnv} {ks : List Kd} {cl : Nat → Addr} {E : L2.St → XK} {G G1 G2 G' : Addr → Prop} {H H0 H' H1 H2 : Hp} {σ : L2.St} {Γ Γ1 Γ2 : Env} {Φ Φ0 Φ1 Φ2 : Nat → List Addr}
variable {a b c e : Expr} {a' b' : CW.E} {m ma mb : Md} {eff ea eb : List Nat} {pos : Pos} {F F' : List Addr} {v : V} {d : D} {K : PySem.W.Frag}
theorem OwnL.append : ∀ {F F' : List Addr} {vs ws : List V} {ds es : List D}, OwnL K G H F vs ds → OwnL K G H F' ws es → (∀ p ∈ F, p ∉ F') → OwnL K G H (F ++ F') (vs ++ ws) (ds ++ es)
  | _, F', _, ws, _, es, .nil, t, _ => t
  | _, F', _, ws, _, es, .cons (F := F1) (F' := F2) h t n, t', nd => by
    rw [List.append_assoc]
    refine .cons h (OwnL.append t t' fun p hp => nd p (List.mem_append_right _ hp)) fun p hp hq => ?_
    rcases List.mem_append.mp hq with hq | hq
    · exact n p hp hq
    · exact nd p (List.mem_append_left _ hp) hq
theorem Tmp.sub (t : Tmp G H Φ F) (h : ∀ p ∈ F', p ∈ F) : Tmp G H Φ F' := fun p hp => t p (h p hp)
theorem Tmp.ex (t : Tmp G H Φ F) (e : ∀ p o, H p = some o → H' p = some o) : Tmp G H' Φ F := fun p hp => by
  obtain ⟨a, b, c⟩ := t p hp
  refine ⟨a, b, fun z => c ?_⟩
  cases q : H p with
  | none => rfl
  | some o =>
    rw [e p o q] at z
    cases z
/-- an item of a temp list -/
theorem y_ixo (ha : SndE X φ ks cl E a a' .ow ea) (hb : SndE X φ ks cl E b b' mb eb) (hp : plainIx b = true := by rfl) : SndE X φ ks cl E (.Subscript a b pos) (.ix a' b') .ow (ea ++ eb) := by
  obtain ⟨ta, pa, qa⟩ := ha
  obtain ⟨tb, pb, qb⟩ := hb
  refine ⟨_, pe_ix ix_seq pa pb (plainIx_ok hp), fun G H σ Γ Φ Q I h => ?_⟩
  simp only [evE] at h
  refine qa G H σ Γ Φ _ I (h.seq sub_l fun x Γ1 G1 H1 Φ1 v I1 s1 r1 h1 => ?_)
  refine qb G1 H1 σ Γ1 Φ1 _ I1 (h1.seq sub_r fun y Γ2 G2 H2 Φ2 w I2 s2 r2 h2 => ?_)
  obtain ⟨F1, r1, o1⟩ := r1
  obtain ⟨F2, r2, _⟩ := r2
  have r1' : Res X.K .ow G2 H2 Φ2 F1 v x := r1.step I1 s2 rfl
  obtain ⟨z, ez, k⟩ := h2.fin (α := Unit) I2
  have ow := r1'.1
  have tm : Tmp G2 H2 Φ2 F1 := r1'.2
  have ok2 := r2.own
  cases y <;> first | (cases x <;> simp only [atD] at ez <;> cases ez; done) | skip
  rename_i i
  cases ok2
  have org : ∀ F', (∀ p ∈ F', p ∈ F1) → Org .ow (ea ++ eb) H Φ F' := fun F' sub t p hp => by
    rcases o1 rfl p (sub p hp) with q | ⟨j, hj, q⟩
    · exact .inl q
    · exact .inr ⟨j, List.mem_append_left _ hj, q⟩
  cases x <;> simp only [atD] at ez <;> try cases ez
  · -- a text
    split at ez
    · rename_i s hs
      cases e1 : atI s.cps.toList i with
      | none =>
        rw [e1] at ez
        cases ez
      | some cc =>
        rw [e1] at ez
        cases ez
        cases ow
        exact .inr (.inr ⟨s, i, cc, rfl, rfl, hs, e1, k H2 _ (fun _ _ h => h) ⟨[], ⟨.str, fun p hp => nomatch hp⟩, fun _ p hp => nomatch hp⟩⟩)
    · cases ez
  · -- a tuple
    rename_i xs
    obtain ⟨j, e1, e2⟩ := atI_some ez
    cases ow with
    | tup sq t lz =>
      rename_i p us
      obtain ⟨u, F', e3, ou, sub⟩ := t.get e2
      exact .inr (.inl ⟨p, us, i, u, rfl, rfl, SqT.of sq, atI_of (by rw [t.len]; exact e1) e3, k H2 _ (fun _ _ h => h) ⟨F', ⟨ou, tm.sub sub⟩, org F' sub⟩⟩)
  · -- a list
    rename_i xs
    obtain ⟨j, e1, e2⟩ := atI_some ez
    cases ow with
    | frz g sq t lz => exact g.elim
    | lst sq t nn lz =>
      rename_i p us F3
      obtain ⟨u, F', e3, ou, sub⟩ := t.get e2
      have sub' : ∀ q ∈ F', q ∈ p :: F3 := fun q hq => List.mem_cons_of_mem _ (sub q hq)
      exact .inl ⟨p, us, i, u, rfl, rfl, SqL.of sq, atI_of (by rw [t.len]; exact e1) e3, k H2 _ (fun _ _ h => h) ⟨F', ⟨ou, tm.sub sub'⟩, org F' sub'⟩⟩
  · -- the script
    rename_i ns
    cases e1 : atI ns i with
    | none =>
      rw [e1] at ez
      cases ez
    | some n =>
      rw [e1] at ez
      cases ez
      obtain ⟨p, rfl, sq, _⟩ := ow.script
      obtain ⟨j, e2, e3⟩ := atI_some e1
      exact .inl ⟨p, _, i, .int n, rfl, rfl, sq, atI_of (by rw [List.length_map]; exact e2) (by rw [List.getElem?_map, e3]; rfl), k H2 _ (fun _ _ h => h) ⟨[], ⟨.int, fun p hp => nomatch hp⟩, fun _ p hp => nomatch hp⟩⟩
/-- a new list of cells that are nobody's yet -/
theorem lay_ow {Q : VK} {e0 : List Nat} {us : List V} {ds : List D} (I : SI X.K ks G H σ Γ Φ) (hx : ∀ p, H p = none → H0 p = none) (h : DenR X ks cl E eff (RelE X .ow e0 H0 Φ0) (.ok (.lst ds) Γ) G H σ Γ Φ Q) (o : OwnL X.K NoG H F us ds) (t : Tmp G H Φ F) (org : Org .ow e0 H0 Φ0 F) (hl : ds.length ≤ sizeLine) :
    ∀ p, H p = none → Q (.ref p) (upd H p (.lst us)) := fun p hp => by
  have ex := upd_ex (o := HO.lst us) hp
  refine h G _ Φ _ (I.grow ex) ((Step.grow ex).wider fun _ h => nomatch h) ⟨p :: F, ⟨.lst upd_same (o.ex ex) (fun hm => (t p hm).2.2 hp) hl, fun q hq => ?_⟩, fun _ q hq => ?_⟩
  · rcases List.mem_cons.mp hq with rfl | hq
    · exact fresh_tmp I hp q List.mem_cons_self
    · exact (t.ex ex) q hq
  · rcases List.mem_cons.mp hq with rfl | hq
    · exact .inl (hx q hp)
    · exact org rfl q hq
theorem own_lst0 {ds : List D} (h : Own K NoG H F v (.lst ds)) : ∃ p us F', v = .ref p ∧ H p = some (.lst us) ∧ OwnL K NoG H F' us ds ∧ (∀ q ∈ F', q ∈ F) ∧ ds.length ≤ sizeLine := by
  cases h with
  | frz g _ _ _ => exact g.elim
  | lst hp t n z => exact ⟨_, _, _, rfl, hp, t, fun q hq => List.mem_cons_of_mem _ hq, z⟩
/-- two temp lists joined -/
theorem y_cato (ha : SndE X φ ks cl E a a' .ow ea) (hb : SndE X φ ks cl E b b' .ow eb) : SndE X φ ks cl E (.BinOp a .Add b pos) (.cat false a' b') .ow (ea ++ eb) := by
  obtain ⟨ta, pa, qa⟩ := ha
  obtain ⟨tb, pb, qb⟩ := hb
  refine ⟨_, pe_op op_cat pa pb, fun G H σ Γ Φ Q I h => ?_⟩
  simp only [evE] at h
  refine qa G H σ Γ Φ _ I (h.seq sub_l fun x Γ1 G1 H1 Φ1 v I1 s1 r1 h1 => ?_)
  refine qb G1 H1 σ Γ1 Φ1 _ I1 (h1.seq sub_r fun y Γ2 G2 H2 Φ2 w I2 s2 r2 h2 => ?_)
  obtain ⟨F1, r1, o1⟩ := r1
  obtain ⟨F2, r2, o2⟩ := r2
  have r1' : Res X.K .ow G2 H2 Φ2 F1 v x := r1.step I1 s2 rfl
  have dis : ∀ p ∈ F1, p ∉ F2 := fun p hp hq => by
    obtain ⟨_, q1, q2⟩ := r1.2 p hp
    rcases o2 rfl p hq with z | ⟨i, _, z⟩
    · exact q2 z
    · exact q1 i z
  cases x <;> cases y <;> first | exact h2.elim | skip
  rename_i xs ys
  obtain ⟨p, us, F1', rfl, hp, t1, f1, l1⟩ := own_lst0 r1'.1
  obtain ⟨p2, ws, F2', rfl, hp2, t2, f2, l2⟩ := own_lst0 r2.1
  simp only [catD] at h2
  split at h2
  · rename_i hz
    refine ⟨p, p2, us, ws, rfl, rfl, hp, hp2, by rw [t1.len, t2.len]; exact hz, ?_⟩
    refine lay_ow (F := F1' ++ F2') I2 (fun q hq => s1.ex q (s2.ex q hq)) h2 (t1.append t2 fun q hq hq2 => dis q (f1 q hq) (f2 q hq2)) (fun q hq => ?_) (fun _ q hq => ?_) (by rw [List.length_append]; exact hz)
    · rcases List.mem_append.mp hq with hq | hq
      · exact r1'.2 q (f1 q hq)
      · exact r2.2 q (f2 q hq)
    · rcases List.mem_append.mp hq with hq | hq
      · exact (o1.mono sub_l) rfl q (f1 q hq)
      · exact Org.back s1 o2 rfl q (f2 q hq)
  · exact h2.elim
/-- a temp list once or not at all -/
theorem y_rp1 (ha : SndE X φ ks cl E a a' .ow ea) (hb : SndE X φ ks cl E b b' mb eb) : SndE X φ ks cl E (.BinOp a .Mult b pos) (.rp1 a' b') .ow (ea ++ eb) := by
  obtain ⟨ta, pa, qa⟩ := ha
  obtain ⟨tb, pb, qb⟩ := hb
  refine ⟨_, pe_op op_rep pa pb, fun G H σ Γ Φ Q I h => ?_⟩
  simp only [evE] at h
  refine qa G H σ Γ Φ _ I (h.seq sub_l fun x Γ1 G1 H1 Φ1 v I1 s1 r1 h1 => ?_)
  refine qb G1 H1 σ Γ1 Φ1 _ I1 (h1.seq sub_r fun y Γ2 G2 H2 Φ2 w I2 s2 r2 h2 => ?_)
  obtain ⟨F1, r1, o1⟩ := r1
  obtain ⟨F2, r2, _⟩ := r2
  have r1' : Res X.K .ow G2 H2 Φ2 F1 v x := r1.step I1 s2 rfl
  cases x <;> cases y <;> first | exact h2.elim | skip
  rename_i xs k
  obtain ⟨p, us, F1', rfl, hp, t1, f1, l1⟩ := own_lst0 r1'.1
  have ok2 := r2.own
  cases ok2
  simp only [rp1D] at h2
  by_cases k1 : k = 1
  · subst k1
    rw [if_pos rfl] at h2
    refine ⟨p, 1, us, rfl, rfl, hp, by decide, by decide, by rw [t1.len]; show xs.length * 1 ≤ _; omega, ?_⟩
    have e : (List.replicate (1 : Int).toNat us).flatten = us := by simp
    rw [e]
    exact lay_ow (F := F1') I2 (fun q hq => s1.ex q (s2.ex q hq)) h2 t1 (fun q hq => r1'.2 q (f1 q hq)) (fun _ q hq => (o1.mono sub_l) rfl q (f1 q hq)) l1
  · rw [if_neg k1] at h2
    by_cases k0 : k = 0
    · subst k0
      rw [if_pos rfl] at h2
      refine ⟨p, 0, us, rfl, rfl, hp, by decide, by decide, by simp, ?_⟩
      have e : (List.replicate (0 : Int).toNat us).flatten = [] := by simp
      rw [e]
      exact lay_ow (F := []) I2 (fun q hq => s1.ex q (s2.ex q hq)) h2 .nil (fun q hq => nomatch hq) (fun _ q hq => nomatch hq) (Nat.zero_le _)
    · rw [if_neg k0] at h2
      exact h2.elim
end
end CW
/-! [elt for x, y in zip(a, b) if c]. -/
namespace CW
open PySem L2
section
variable {X : Cx} {φ : FEnv} {ks : List Kd} {cl : Nat → Addr} {E : L2.St → XK} {G G1 G2 G' : Addr → Prop} {H H0 H' H1 H2 : Hp} {σ : L2.St} {Γ Γ1 Γ2 : Env} {Φ Φ0 Φ1 Φ2 : Nat → List Addr}
variable {a b c e iter iter2 : Expr} {a' b' : CW.E} {m me m1 ma mb ms ms2 : Md} {eff ea eb ec : List Nat} {pos : Pos} {F F' : List Addr} {v : V} {d : D} {K : PySem.W.Frag} {ds ys : List D} {scope : Scope} {own : List (Str × Nat)}
/-- items side by side, by an invariant -/
theorem lc_zipL {p q : Addr} {xs zs : List V} {g : TG} {tt : TT} {te : TE} {vs : List Nat} {Dd : Addr} {Qd : Hp → Prop} (hlen : xs.length = zs.length) (Pv : Nat → Hp → Prop) (h0 : Pv 0 (upd H1 Dd (.lst []))) (hl : ∀ i H, i ≤ xs.length → Pv i H → SqL K H p xs ∧ SqL K H q zs)
    (hs : ∀ i x z T H, xs[i]? = some x → zs[i]? = some z → Pv i H → H T = none → g (.ref T) (L2.wipe σ vs) (upd H T (.tup [x, z])) fun σ2 H2 => L2.wipe σ2 vs = L2.wipe σ vs ∧ tt σ2 H2 fun b H3 =>
      if b = true then te σ2 H3 fun y H4 => ∃ acc, H4 Dd = some (.lst acc) ∧ acc.length < sizeLine ∧ Pv (i + 1) (upd H4 Dd (.lst (acc ++ [y]))) else Pv (i + 1) H3) (hd : ∀ H, Pv xs.length H → Qd H) :
    ∃ W : Nat → Nat → Hp → Prop, (∃ m, W 0 m (upd H1 Dd (.lst []))) ∧ ∀ i m H, W i m H →
      ((Itz K p q).stop i H ∧ Qd H) ∨ ((Itz K p q).go i H ∧ ∃ Nx : Hp → Prop, (∀ H', Nx H' → ∃ m', m' < m ∧ W (i + 1) m' H') ∧ ∀ x H', (Itz K p q).yld i H x H' → g x (L2.wipe σ vs) H' fun σ2 H2 => L2.wipe σ2 vs = L2.wipe σ vs ∧ tt σ2 H2 fun b H3 =>
        if b = true then te σ2 H3 fun y H4 => ∃ acc, H4 Dd = some (.lst acc) ∧ acc.length < sizeLine ∧ Nx (upd H4 Dd (.lst (acc ++ [y]))) else Nx H3) := by
  refine ⟨fun i m H => m = xs.length - i ∧ i ≤ xs.length ∧ Pv i H, ⟨xs.length, by simp, Nat.zero_le _, h0⟩, fun i m H w => ?_⟩
  obtain ⟨rfl, hi, pv⟩ := w
  obtain ⟨q1, q2⟩ := hl i H hi pv
  rcases Nat.lt_or_ge i xs.length with hlt | hge
  · have hlt2 : i < zs.length := hlen ▸ hlt
    refine .inr ⟨⟨xs, zs, xs[i], zs[i], q1, q2, List.getElem?_eq_getElem hlt, List.getElem?_eq_getElem hlt2⟩, Pv (i + 1), fun H' pv' => ⟨xs.length - (i + 1), by omega, rfl, hlt, pv'⟩, fun x H' y => ?_⟩
    obtain ⟨T, x1, z1, rfl, hT, rfl, e1, e2⟩ := y
    exact hs i x1 z1 T H (e1 xs q1) (e2 zs q2) pv hT
  · have e : i = xs.length := Nat.le_antisymm hi hge
    subst e
    exact .inl ⟨⟨xs, zs, q1, q2, .inl (Nat.le_refl _)⟩, hd H pv⟩
theorem snd_lcz {eltE : Expr} {ifs : List Expr} {tg : Tg} {c : Option CW.E} {elt : CW.E} {es es2 : List Nat} {elts : List Expr} {kk : Nat} {tpos p0 p1 : Pos}
    (hc : X.calm = true) (hN : X.N.Nodup) (hg : Gl X "zip") (hn : X.mg "zip" = none) (hst : noStar iter = true) (hst2 : noStar iter2 = true) (hs : SndE X φ ks cl E iter a' ms es) (hs2 : SndE X φ ks cl E iter2 b' ms2 es2) (ht : ms.bare = true) (ht2 : ms2.bare = true) (ho1 : ms.off es2 = true) (hoff : ms.off (ec ++ ea) = true) (hoff2 : ms2.off (ec ++ ea) = true)
    (B : Blk X φ ks cl scope own .sh (.Tuple elts kk tpos) tg ifs c ec eltE elt m1 ea) (hle : m1.le me = true) (hm : lcM me m = true) :
    SndLC X φ ks cl E (.ListComp eltE [⟨.Tuple elts kk tpos, .Call (.Name "zip" p0) [iter, iter2] [] p1, ifs, 0⟩] scope pos) (.lcz (own.map (·.2)) tg a' b' c elt) m (es ++ es2 ++ (ec ++ ea)) := by
  obtain ⟨t, p, q⟩ := hs
  obtain ⟨t2, p2, q2⟩ := hs2
  have src := pi_zip (tpos := tpos) (elts := elts) (kk := kk) (pos := p1) (p := p0) hg hn (pa_cons p (pa_cons p2 pa_nil (noStar_ok hst2 _)) (noStar_ok hst _)) (by rw [noStar_ok hst]) (by rw [noStar_ok hst2]; rfl)
  refine ⟨_, pe_lc hc hN src B.ok B.g B.t B.e (noSet_ok rfl _), (fun i y py spos h1 h2 h3 => ps_setLc hc hN h1 h2 h3 src B.ok B.g B.t B.e (noSet_ok rfl _)), fun G H σ Γ Φ Q I h => ?_⟩
  simp only [evE] at h
  refine q G H σ Γ Φ _ I (h.seq (fun i hi => List.mem_append_left _ (List.mem_append_left _ hi)) fun x Γ1 G1 H1 Φ1 v I1 s1 r1 h1 => ?_)
  refine q2 G1 H1 σ Γ1 Φ1 _ I1 (h1.seq (fun i hi => List.mem_append_left _ (List.mem_append_right _ hi)) fun y Γ2 G2 H2 Φ2 w I2 s2 r2 h2 => ?_)
  obtain ⟨F1, r01, _⟩ := r1
  obtain ⟨F2, r2, _⟩ := r2
  have r1 := r01.step I1 s2 ho1
  have bt : ms.tmp = false := by cases ms <;> first | rfl | cases ht
  have bt2 : ms2.tmp = false := by cases ms2 <;> first | rfl | cases ht2
  cases x <;> first | exact h2.elim | skip
  rename_i ds
  cases y <;> first | exact h2.elim | skip
  rename_i ds2
  simp only [zipK] at h2
  split at h2
  rotate_left
  · exact h2.elim
  rename_i hll
  rw [ofo_some, bind_ok] at h2
  obtain ⟨p', us, F1', rfl, hp, o1, f1, l1⟩ := r1.own.seq
  obtain ⟨q', us2, F2', rfl, hq, o2, f2, l2⟩ := r2.own.seq
  have s12 := s1.trans s2
  have hT := compL_ok (T := compT φ (own.map (·.2)) tg c elt) (fun d Γ k Γ' => compT_ne d Γ k Γ') (ds := zipD ds ds2) (acc := []) (Γ := wipeE Γ2 (own.map (·.2)))
  have body : compL (fun d Γ => noExc ((R.ofo (Tg.bind tg d (wipeE Γ (own.map (·.2)))) Γ).bind fun Γ _ => (evC φ c Γ).bind fun k Γ => if k then (evE φ elt Γ).bind fun y Γ => .ok (some y) Γ else .ok none Γ)) (zipD ds ds2) [] (wipeE Γ2 (own.map (·.2))) = compL (compT φ (own.map (·.2)) tg c elt) (zipD ds ds2) [] (wipeE Γ2 (own.map (·.2))) := rfl
  rw [body] at h2
  rcases hT with ⟨ys, Γ3, hT⟩ | hT
  · rw [hT, bind_ok] at h2
    have I2w := I2.wipe B.fr
    have kept : ∀ {H3 : Hp} {i : Nat} {D0 : Addr}, CI X φ ks (own.map (·.2)) tg c elt me (ec ++ ea) σ D0 G2 H2 Φ2 Γ2 (zipD ds ds2) ys Γ3 i H3 → H3 p' = some (.lst us) ∧ H3 q' = some (.lst us2) := fun pc => by
      obtain ⟨G, Γ, Φ, acc, av, F, _, _, _, s, _⟩ := pc.ex
      exact ⟨s.kp p' _ hp (Res.kept I2w r1 bt hoff), s.kp q' _ hq (Res.kept I2w r2 bt2 hoff2)⟩
    have hu := o1.len
    have hu2 := o2.len
    refine ⟨p', q', us, us2, rfl, SqL.of hp, SqL.of hq, fun D0 hD0 => lc_zipL (K := X.K) (p := p') (q := q') (xs := us) (zs := us2) (by omega) (fun i H => CI X φ ks (own.map (·.2)) tg c elt me (ec ++ ea) σ D0 G2 H2 Φ2 Γ2 (zipD ds ds2) ys Γ3 i H) ?_ (fun i H3 _ pc => ⟨SqL.of (kept pc).1, SqL.of (kept pc).2⟩) (fun i x z T H3 hx hz pc hT3 => ?_) (fun H3 pc => ?_)⟩
    · exact comp_start B.fr (me_of hm) hD0 I2 hT
    · have hi : i < us.length := (List.getElem?_eq_some_iff.mp hx).1
      have hid : i < ds.length := by omega
      have hid2 : i < ds2.length := by omega
      have ex := upd_ex (o := HO.tup [x, z]) hT3
      refine comp_turnH B.fr B.sl hle (d := .tup [ds[i], ds2[i]]) (zipD_get (List.getElem?_eq_getElem hid) (List.getElem?_eq_getElem hid2)) (by omega) (fun G3 Φ3 Γ4 I3 s3 => ?_) I2w hD0 (pc.grow ex)
      have one : ∀ {m : Md} {F : List Addr} {k : Addr} {ws : List V} {es : List D} {x0 : V} (r : Res X.K m G2 H2 Φ2 F (.ref k) (.lst es)) (hb : m.bare = true) (ho : m.off (ec ++ ea) = true) (hk : H2 k = some (.lst ws)) (hx : ws[i]? = some x0) (hid : i < es.length), Own X.K G3 (upd H3 T (.tup [x, z])) [] x0 es[i] := by
        intro m F k ws es x0 r hb ho hk hx0 hid
        have hm2 : m.tmp = false := by cases m <;> first | rfl | cases hb
        have r' := r.step I2w s3 ho
        obtain ⟨u, F3, it, q3⟩ := r'.item hm2 (ds := es) rfl (List.getElem?_eq_getElem hid)
        have hk3 := s3.kp k _ hk (Res.kept I2w r hm2 ho)
        obtain ⟨k', ws', ek, hh, e3⟩ := it
        cases ek
        rcases hh with hh | hh <;> rw [hk3] at hh <;> cases hh
        rw [hx0] at e3
        cases e3
        have hF : F3 = [] := q3.bare hb
        subst hF
        exact q3.own
      exact ⟨[], rfl, .tup upd_same (.cons0 (one r1 ht hoff hp hx hid) (.cons0 (one r2 ht2 hoff2 hq hz hid2) .nil)) (by show 2 ≤ sizeLine; decide)⟩
    · exact comp_end B.fr hm (by rw [zipD_len hll]; omega) (by omega) hD0 I2 s12 h2 pc
  · exfalso
    rw [hT] at h2
    exact h2
theorem y_lcz {eltE : Expr} {ifs : List Expr} {tg : Tg} {elt : CW.E} {es es2 : List Nat} {c : Option CW.E} (me m : Md) (own : List (Str × Nat)) {elts : List Expr} {kk : Nat} {tpos p0 p1 : Pos} (nd : X.N.Nodup) (hn : X.mg "zip" = none) (hs : SndE X φ ks cl E iter a' ms es) (hs2 : SndE X φ ks cl E iter2 b' ms2 es2) (hg : ∀ (s : Shared) (H : Hp) (C : Addr) (cl' : List (Str × Addr)) (fp : List Addr), SndG (X.blk s H scope (compEnvC scope cl' C X.env) fp) ks .sh (.Tuple elts kk tpos) tg)
    (ht : ∀ (s : Shared) (H : Hp) (C : Addr) (cl' : List (Str × Addr)) (fp : List Addr), PTs (X.blk s H scope (compEnvC scope cl' C X.env) fp) ifs (tdIf φ X ks cl ec c)) (he : ∀ (s : Shared) (H : Hp) (C : Addr) (cl' : List (Str × Addr)) (fp : List Addr), SndE (X.blk s H scope (compEnvC scope cl' C X.env) fp) φ ks cl noE eltE elt m1 ea)
    (ok : blkC X.N X.env.scope scope own = true := by kernel_rfl) (fr : ∀ j ∈ own.map (·.2), (kd ks j).fr = true := by decide) (sl : ∀ j ∈ tg.slots, j ∈ own.map (·.2) := by decide) (off : ms.off (ec ++ ea) = true := by rfl) (off2 : ms2.off (ec ++ ea) = true := by rfl) (off1 : ms.off es2 = true := by rfl) (hle : m1.le me = true := by rfl) (hm : lcM me m = true := by rfl) (htm : ms.bare = true := by rfl) (htm2 : ms2.bare = true := by rfl) (hst : noStar iter = true := by rfl) (hst2 : noStar iter2 = true := by rfl) (hg0 : Gl X "zip" := by rfl) (hc : X.calm = true := by rfl) :
    SndLC X φ ks cl E (.ListComp eltE [⟨.Tuple elts kk tpos, .Call (.Name "zip" p0) [iter, iter2] [] p1, ifs, 0⟩] scope pos) (.lcz (own.map (·.2)) tg a' b' c elt) m (es ++ es2 ++ (ec ++ ea)) :=
  snd_lcz hc nd hg0 hn hst hst2 hs hs2 htm htm2 off1 off off2 ⟨blkOk_by ok, fun s H C cl' fp => (hg s H C cl' fp).canon, ht, fun s H C cl' fp => (he s H C cl' fp).canon, fr, sl⟩ hle hm
end
end CW
namespace CWL
open PySem L2 CW
section
variable {φ : FEnv} {Γ : CW.Env}
@[simp] theorem r_nil : evSs φ [] Γ = .nx Γ := by simp only [evSs]
@[simp] theorem r_cons {s : S} {ss : List S} : evSs φ (s :: ss) Γ = (evS φ s Γ).seq (evSs φ ss) := by simp only [evSs]
@[simp] theorem r_asg {i : Nat} {e : CW.E} : evS φ (.asg i e) Γ = (evE φ e Γ).toS fun d Γ => .nx (CW.put Γ i d) := by simp only [evS]
@[simp] theorem r_aug {i : Nat} {o : Bop} {e : CW.E} : evS φ (.aug i o e) Γ = (R.ofo (CW.get Γ i) Γ).toS fun x Γ => (evE φ e Γ).toS fun y Γ => (R.ofo (augSem o x y) Γ).toS fun z Γ => .nx (CW.put Γ i z) := by simp only [evS]
@[simp] theorem r_ex {e : CW.E} : evS φ (.ex e) Γ = (evE φ e Γ).toS fun _ Γ => .nx Γ := by simp only [evS]
@[simp] theorem r_ret {e : CW.E} : evS φ (.ret e) Γ = (evE φ e Γ).toS fun d Γ => .rt d Γ := by simp only [evS]
noncomputable def iteK (φ : FEnv) (a b : List S) (k : Bool) (Γ : CW.Env) : SR := if k then evSs φ a Γ else evSs φ b Γ
@[simp] theorem r_ite {c : CW.E} {a b : List S} : evS φ (.ite c a b) Γ = (evC φ (some c) Γ).toS (iteK φ a b) := by simp only [evS]; rfl
@[simp] theorem iteK_t {a b : List S} : iteK φ a b true Γ = evSs φ a Γ := rfl
@[simp] theorem iteK_f {a b : List S} : iteK φ a b false Γ = evSs φ b Γ := rfl
@[simp] theorem r_forl {tp : Bool} {tg : Tg} {e : CW.E} {b : List S} : evS φ (.forl tp tg e b) Γ = (evE φ e Γ).toS fun x Γ => (R.ofo (itemsOf tp x) Γ).toS (forL (turnOf φ tg b)) := by simp only [evS]; rfl
@[simp] theorem r_forr {tg : Tg} {es : List CW.E} {b : List S} : evS φ (.forr tg es b) Γ = (evEs φ es Γ).toS fun ds Γ => (R.ofo (rngD ds) Γ).toS fun p => forL (turnOf φ tg b) (rngL p.1 p.2) := by simp only [evS]; rfl
@[simp] theorem r_lcl {tp : Bool} {own : List Nat} {tg : Tg} {e : CW.E} {c : Option CW.E} {y : CW.E} : evE φ (.lcl tp own tg e c y) Γ = (evE φ e Γ).bind fun x Γ1 => (R.ofo (itemsOf tp x) Γ1).bind fun ds Γ1 => (compL (compT φ own tg c y) ds [] (wipeE Γ1 own)).bind fun ys Γ2 => .ok (.lst ys) (backE Γ1 Γ2 own) := by simp only [evE]; rfl
@[simp] theorem r_lcr {own : List Nat} {tg : Tg} {es : List CW.E} {c : Option CW.E} {y : CW.E} : evE φ (.lcr own tg es c y) Γ = (evEs φ es Γ).bind fun ds Γ => (R.ofo (rngD ds) Γ).bind fun p Γ1 => (compL (compT φ own tg c y) (rngL p.1 p.2) [] (wipeE Γ1 own)).bind fun ys Γ2 => .ok (.lst ys) (backE Γ1 Γ2 own) := by simp only [evE]; rfl
@[simp] theorem r_var {i : Nat} : evE φ (.var i) Γ = R.ofo (CW.get Γ i) Γ := by simp only [evE]
@[simp] theorem r_mv {i : Nat} : evE φ (.mv i) Γ = (R.ofo (CW.get Γ i) Γ).bind fun d Γ => .ok d (Γ.set i none) := by simp only [evE]
@[simp] theorem r_cn {d : D} : evE φ (.cn d) Γ = .ok d Γ := by simp only [evE]
def chkK (d : D) (Γ : CW.Env) : R D := if d.imm then .ok d Γ else .bad
@[simp] theorem r_chk {e : CW.E} : evE φ (.chk e) Γ = (evE φ e Γ).bind chkK := by simp only [evE]; rfl
@[simp] theorem chkK_int {i : Int} : chkK (.int i) Γ = .ok (.int i) Γ := by simp [chkK]
@[simp] theorem chkK_bl {i : Bool} : chkK (.bl i) Γ = .ok (.bl i) Γ := by simp [chkK]
@[simp] theorem r_bin {o : Bop} {a b : CW.E} : evE φ (.bin o a b) Γ = (evE φ a Γ).bind fun x Γ => (evE φ b Γ).bind fun y => R.ofo (o.sem x y) := by simp only [evE]
@[simp] theorem r_neg {a : CW.E} : evE φ (.neg a) Γ = (evE φ a Γ).bind fun x => R.ofo ((toInt x).map fun i => .int (-i)) := by simp only [evE]
@[simp] theorem r_cmp {o : Cop} {a b : CW.E} : evE φ (.cmp o a b) Γ = (evE φ a Γ).bind fun x Γ => (evE φ b Γ).bind fun y => R.ofo ((o.sem x y).map .bl) := by simp only [evE]
noncomputable def chainK (φ : FEnv) (o' : Cop) (c : CW.E) (y : D) (k : Bool) (Γ : CW.Env) : R D := if k then (evE φ c Γ).bind fun z => R.ofo ((o'.sem y z).map .bl) else .ok (.bl false) Γ
@[simp] theorem r_chain {o o' : Cop} {a b c : CW.E} : evE φ (.chain o o' a b c) Γ = (evE φ a Γ).bind fun x Γ => (evE φ b Γ).bind fun y Γ => (R.ofo (o.sem x y) Γ).bind (chainK φ o' c y) := by simp only [evE]; rfl
@[simp] theorem chainK_t {o' : Cop} {c : CW.E} {y : D} : chainK φ o' c y true Γ = (evE φ c Γ).bind fun z => R.ofo ((o'.sem y z).map .bl) := rfl
@[simp] theorem chainK_f {o' : Cop} {c : CW.E} {y : D} : chainK φ o' c y false Γ = .ok (.bl false) Γ := rfl
def blK (d : D) (Γ : CW.Env) : R D := match d with | .bl c => .ok (.bl c) Γ | _ => .bad
@[simp] theorem blK_bl {c : Bool} : blK (.bl c) Γ = .ok (.bl c) Γ := rfl
noncomputable def andK (φ : FEnv) (b : CW.E) (x : D) (Γ : CW.Env) : R D := match x with | .bl true => (evE φ b Γ).bind blK | .bl false => .ok (.bl false) Γ | _ => .bad
noncomputable def orK (φ : FEnv) (b : CW.E) (x : D) (Γ : CW.Env) : R D := match x with | .bl false => (evE φ b Γ).bind blK | .bl true => .ok (.bl true) Γ | _ => .bad
@[simp] theorem r_and {a b : CW.E} : evE φ (.and a b) Γ = (evE φ a Γ).bind (andK φ b) := by simp only [evE]; rfl
@[simp] theorem r_or {a b : CW.E} : evE φ (.or a b) Γ = (evE φ a Γ).bind (orK φ b) := by simp only [evE]; rfl
@[simp] theorem andK_t {b : CW.E} : andK φ b (.bl true) Γ = (evE φ b Γ).bind blK := rfl
@[simp] theorem andK_f {b : CW.E} : andK φ b (.bl false) Γ = .ok (.bl false) Γ := rfl
@[simp] theorem orK_t {b : CW.E} : orK φ b (.bl true) Γ = .ok (.bl true) Γ := rfl
@[simp] theorem orK_f {b : CW.E} : orK φ b (.bl false) Γ = (evE φ b Γ).bind blK := rfl
def notK (d : D) (Γ : CW.Env) : R D := match d with | .bl c => .ok (.bl (!c)) Γ | _ => .bad
@[simp] theorem notK_bl {c : Bool} : notK (.bl c) Γ = .ok (.bl (!c)) Γ := rfl
@[simp] theorem r_not {a : CW.E} : evE φ (.not a) Γ = (evE φ a Γ).bind notK := by simp only [evE]; rfl
@[simp] theorem r_tup {es : List CW.E} : evE φ (.tup es) Γ = (evEs φ es Γ).bind fun ds => .ok (.tup ds) := by simp only [evE]
@[simp] theorem r_lst {es : List CW.E} : evE φ (.lst es) Γ = (evEs φ es Γ).bind fun ds => .ok (.lst ds) := by simp only [evE]
@[simp] theorem r_ix {a i : CW.E} : evE φ (.ix a i) Γ = (evE φ a Γ).bind fun x Γ => (evE φ i Γ).bind fun y => R.ofo (atD x y) := by simp only [evE]
@[simp] theorem r_bi {b : Bi} {es : List CW.E} : evE φ (.bi b es) Γ = (evEs φ es Γ).bind fun ds => R.ofo (b.sem ds) := by simp only [evE]
@[simp] theorem r_mk {o : Mk} {ck : Bool} {a : CW.E} : evE φ (.mk o ck a) Γ = (evE φ a Γ).bind fun x => R.ofo (o.sem ck x) := by simp only [evE]
@[simp] theorem r_rng {es : List CW.E} : evE φ (.rng es) Γ = (evEs φ es Γ).bind fun ds Γ => (R.ofo (rngD ds) Γ).bind fun p => .ok (.lst (rngL p.1 p.2)) := by simp only [evE]
def callK (io : List (Nat × Nat)) (r : RF) (Γ : CW.Env) : R D := match r with
  | .ok d outs => .ok d (putP Γ io outs)
  | .exc c outs => .exc c (putP Γ io outs)
  | .bad => .bad
@[simp] theorem callK_ok {io : List (Nat × Nat)} {d : D} {outs : List D} : callK io (.ok d outs) Γ = .ok d (putP Γ io outs) := rfl
@[simp] theorem r_call {f : Nat} {es : List CW.E} {io : List (Nat × Nat)} : evE φ (.call f es io) Γ = (evEs φ es Γ).bind fun ds => callK io (φ.f f ds) := by
  simp only [evE]
  congr 1
@[simp] theorem r_enil : evEs φ [] Γ = .ok [] Γ := by simp only [evEs]
@[simp] theorem r_econs {e : CW.E} {es : List CW.E} : evEs φ (e :: es) Γ = (evE φ e Γ).bind fun d Γ => (evEs φ es Γ).bind fun ds => .ok (d :: ds) := by simp only [evEs]
@[simp] theorem r_cnone : evC φ none Γ = .ok true Γ := by simp only [evC]
def tstK (d : D) (Γ : CW.Env) : R Bool := match d with | .bl k => .ok k Γ | _ => .bad
@[simp] theorem tstK_bl {c : Bool} : tstK (.bl c) Γ = .ok c Γ := rfl
@[simp] theorem r_csome {e : CW.E} : evC φ (some e) Γ = (evE φ e Γ).bind tstK := by simp only [evC]; rfl
@[simp] theorem r_onone : evO φ none Γ = .ok none Γ := by simp only [evO]
@[simp] theorem r_osome {e : CW.E} : evO φ (some e) Γ = (evE φ e Γ).bind fun d => R.ofo ((toInt d).map some) := by simp only [evO]
@[simp] theorem r_pop {x : Nat} {i : Option CW.E} : evE φ (.pop x i) Γ = (lsAt Γ x).bind fun _ Γ => (evO φ i Γ).bind fun o Γ => (R.ofo ((CW.get Γ x).bind fun d => popD d o) Γ).bind fun p Γ => .ok p.1 (CW.put Γ x p.2) := by simp only [evE]
@[simp] theorem r_cat {ck : Bool} {a b : CW.E} : evE φ (.cat ck a b) Γ = (evE φ a Γ).bind fun x Γ => (evE φ b Γ).bind fun y => R.ofo (catD ck x y) := by simp only [evE]
def slK (ck : Bool) (x : D) (l h : Option Int) (Γ : CW.Env) : R D := match x with
  | .lst ds => R.ofo (okL ck (cutD ds l h)) Γ
  | .scr ns => R.ofo (okL ck (cutD (ns.map .int) l h)) Γ
  | _ => .bad
@[simp] theorem slK_lst {ck : Bool} {ds : List D} {l h : Option Int} : slK ck (.lst ds) l h Γ = R.ofo (okL ck (cutD ds l h)) Γ := rfl
@[simp] theorem r_sl {ck : Bool} {a : CW.E} {lo hi : Option CW.E} : evE φ (.sl ck a lo hi) Γ = (evE φ a Γ).bind fun x Γ => (evO φ lo Γ).bind fun l Γ => (evO φ hi Γ).bind fun h => slK ck x l h := by
  simp only [evE]
  congr 1
@[simp] theorem r_tupM {is : List Nat} {es : List CW.E} : evE φ (.tupM is es) Γ = (hasI is Γ).bind fun _ Γ => (evEs φ es Γ).bind fun ds Γ => (mvI is Γ).bind fun ds' => .ok (.tup (ds' ++ ds)) := by simp only [evE]
def appK (x : Nat) (d : D) (Γ : CW.Env) : SR := match CW.get Γ x with
  | some (.lst ds) => if ds.length < sizeLine then .nx (CW.put Γ x (.lst (ds ++ [d]))) else .bad
  | _ => .bad
@[simp] theorem r_app {x : Nat} {e : CW.E} : evS φ (.app x e) Γ = (lsAt Γ x).toS fun _ Γ => (evE φ e Γ).toS (appK x) := by
  simp only [evS]
  rfl
def extK (x : Nat) (d : D) (Γ : CW.Env) : SR := match CW.get Γ x, d with
  | some (.lst ds), .lst es => if ds.length + es.length ≤ sizeLine then .nx (CW.put Γ x (.lst (ds ++ es))) else .bad
  | _, _ => .bad
@[simp] theorem r_ext {x : Nat} {e : CW.E} : evS φ (.ext x e) Γ = (lsAt Γ x).toS fun _ Γ => (evE φ e Γ).toS (extK x) := by
  simp only [evS]
  rfl
@[simp] theorem r_setp {x : Nat} {path : List CW.E} {i e : CW.E} : evS φ (.setp x path i e) Γ = (evE φ e Γ).toS fun d Γ => (evEs φ path Γ).toS fun ps Γ => (evE φ i Γ).toS fun k Γ => (R.ofo ((intsOf (ps ++ [k])).bind fun is => (CW.get Γ x).bind fun t => setAt t is d) Γ).toS fun t Γ => .nx (CW.put Γ x t) := by simp only [evS]
@[simp] theorem r_asgT {ts : List Tg} {e : CW.E} : evS φ (.asgT ts e) Γ = (evE φ e Γ).toS fun d Γ => (R.ofo (Tg.bind (.tup ts) d Γ) Γ).toS fun Γ _ => .nx Γ := by simp only [evS]
@[simp] theorem wipe1 {i : Nat} : wipeE Γ [i] = Γ.set i none := rfl
@[simp] theorem back1 {Γ0 : CW.Env} {i : Nat} : backE Γ0 Γ [i] = Γ.set i (CW.get Γ0 i) := rfl
theorem turn_nm {i : Nat} {ck : Bool} {d : D} {b : List S} (h : (!ck || d.imm) = true) : turnOf φ (.nm i ck) b d Γ = evSs φ b (CW.put Γ i d) := by
  unfold turnOf
  simp [Tg.bind, h]
theorem compT_nm {own : List Nat} {i : Nat} {ck : Bool} {c : Option CW.E} {y : CW.E} {d : D} (h : (!ck || d.imm) = true) : compT φ own (.nm i ck) c y d Γ = noExc ((evC φ c (CW.put (wipeE Γ own) i d)).bind fun k Γ => if k then (evE φ y Γ).bind fun y Γ => .ok (some y) Γ else .ok none Γ) := by
  unfold compT
  simp [Tg.bind, h]
@[simp] theorem noExc_ok' {α : Type} {a : α} : noExc (.ok a Γ) = .ok a Γ := rfl
@[simp] theorem putP_nil {outs : List D} : putP Γ [] outs = Γ := rfl
end
@[simp] theorem get_0 {a : Option D} {Γ : CW.Env} : CW.get (a :: Γ) 0 = a := rfl
@[simp] theorem get_s {a : Option D} {Γ : CW.Env} {n : Nat} : CW.get (a :: Γ) (n + 1) = CW.get Γ n := rfl
@[simp] theorem put_0 {a : Option D} {Γ : CW.Env} {d : D} : CW.put (a :: Γ) 0 d = some d :: Γ := rfl
@[simp] theorem put_s {a : Option D} {Γ : CW.Env} {n : Nat} {d : D} : CW.put (a :: Γ) (n + 1) d = a :: CW.put Γ n d := rfl
@[simp] theorem eqOk_int {a b : Int} : eqOk (.int a) (.int b) = true := rfl
@[simp] theorem eqD_int {a b : Int} : eqD (.int a) (.int b) = (a == b) := by simp [eqD]
@[simp] theorem eqD_tup {a b : List D} : eqD (.tup a) (.tup b) = eqDs a b := by simp [eqD]
@[simp] theorem eqD_lst {a b : List D} : eqD (.lst a) (.lst b) = eqDs a b := by simp [eqD]
@[simp] theorem eqDs_nil : eqDs [] [] = true := by simp [eqDs]
@[simp] theorem eqDs_cons {a b : D} {x y : List D} : eqDs (a :: x) (b :: y) = (eqD a b && eqDs x y) := by simp [eqDs]
@[simp] theorem toInt_int {i : Int} : toInt (.int i) = some i := rfl
@[simp] theorem intsOf_nil : intsOf [] = some [] := rfl
@[simp] theorem intsOf_int {i : Int} {r : List D} : intsOf (.int i :: r) = (intsOf r).map (i :: ·) := rfl
@[simp] theorem setAt_nil {d e : D} : setAt d [] e = some e := by cases d <;> rfl
@[simp] theorem setAt_l {ds : List D} {i : Int} {is : List Int} {e : D} : setAt (.lst ds) (i :: is) e = (ixN ds.length i).bind fun k => (ds[k]?).bind fun d => (setAt d is e).map fun d' => .lst (ds.set k d') := rfl
@[simp] theorem setAt_t {ds : List D} {i j : Int} {is : List Int} {e : D} : setAt (.tup ds) (i :: j :: is) e = (ixN ds.length i).bind fun k => (ds[k]?).bind fun d => (setAt d (j :: is) e).map fun d' => .tup (ds.set k d') := rfl
theorem ixN_of {n : Nat} {i : Int} (h : 0 ≤ i ∧ i < n) : ixN n i = some i.toNat := by
  unfold ixN
  rw [if_pos h.1, if_pos h.2]
theorem atI_nat {α : Type} {l : List α} {n : Nat} : atI l (n : Int) = l[n]? := by
  unfold atI ixN
  by_cases h : n < l.length
  · rw [if_pos (by omega), if_pos (by omega)]
    rfl
  · rw [if_pos (by omega), if_neg (by omega), List.getElem?_eq_none (by omega)]
    rfl
theorem atI_of_nonneg {α : Type} {l : List α} {i : Int} (h : 0 ≤ i) : atI l i = l[i.toNat]? := by
  have : i = (i.toNat : Int) := by omega
  rw [this, atI_nat]
  rfl
@[simp] theorem at_0 {α : Type} {l : List α} : atI l 0 = l[0]? := atI_nat (n := 0)
@[simp] theorem at_1 {α : Type} {l : List α} : atI l 1 = l[1]? := atI_nat (n := 1)
@[simp] theorem at_2 {α : Type} {l : List α} : atI l 2 = l[2]? := atI_nat (n := 2)
@[simp] theorem c_eq {a b : D} : Cop.sem .eq a b = if eqOk a b then some (eqD a b) else none := rfl
@[simp] theorem c_ne {a b : D} : Cop.sem .ne a b = if eqOk a b then some (!eqD a b) else none := rfl
@[simp] theorem c_lt {i j : Int} : Cop.sem .lt (.int i) (.int j) = some (decide (i < j)) := rfl
@[simp] theorem c_le {i j : Int} : Cop.sem .le (.int i) (.int j) = some (decide (i ≤ j)) := rfl
@[simp] theorem c_gt {i j : Int} : Cop.sem .gt (.int i) (.int j) = some (decide (j < i)) := rfl
@[simp] theorem c_ge {i j : Int} : Cop.sem .ge (.int i) (.int j) = some (decide (j ≤ i)) := rfl
@[simp] theorem b_len {ds : List D} : Bi.sem .len [.lst ds] = some (.int ds.length) := rfl
@[simp] theorem b_lenT {ds : List D} : Bi.sem .len [.tup ds] = some (.int ds.length) := rfl
@[simp] theorem b_lenS {ns : List Int} : Bi.sem .len [.scr ns] = some (.int ns.length) := rfl
@[simp] theorem b_abs {i : Int} : Bi.sem .abs [.int i] = some (.int (if i < 0 then -i else i)) := rfl
@[simp] theorem b_min {i j : Int} : Bi.sem .min2 [.int i, .int j] = some (.int (if j < i then j else i)) := rfl
@[simp] theorem b_max {i j : Int} : Bi.sem .max2 [.int i, .int j] = some (.int (if i < j then j else i)) := rfl
@[simp] theorem b_int {b : Bool} : Bi.sem .int1 [.bl b] = some (.int (if b then 1 else 0)) := rfl
@[simp] theorem b_isInt {d : D} : Bi.sem .isInt [d] = (isTy .isInt d).map .bl := rfl
@[simp] theorem b_isBool {d : D} : Bi.sem .isBool [d] = (isTy .isBool d).map .bl := rfl
@[simp] theorem b_isList {d : D} : Bi.sem .isList [d] = (isTy .isList d).map .bl := rfl
@[simp] theorem b_isTup {d : D} : Bi.sem .isTup [d] = (isTy .isTup d).map .bl := rfl
@[simp] theorem t_ii {i : Int} : isTy .isInt (.int i) = some true := rfl
@[simp] theorem t_bi {i : Int} : isTy .isBool (.int i) = some false := rfl
@[simp] theorem t_lt {l : List D} : isTy .isList (.lst l) = some true := rfl
@[simp] theorem t_tt {l : List D} : isTy .isTup (.tup l) = some true := rfl
@[simp] theorem a_l {l : List D} {i : Int} : atD (.lst l) (.int i) = atI l i := rfl
@[simp] theorem a_t {l : List D} {i : Int} : atD (.tup l) (.int i) = atI l i := rfl
@[simp] theorem o_add {i j : Int} : Bop.sem .add (.int i) (.int j) = some (.int (i + j)) := rfl
@[simp] theorem o_sub {i j : Int} : Bop.sem .sub (.int i) (.int j) = some (.int (i - j)) := rfl
@[simp] theorem o_mul {i j : Int} : Bop.sem .mul (.int i) (.int j) = if mulOk i j then some (.int (i * j)) else none := rfl
@[simp] theorem o_fdiv {i j : Int} : Bop.sem .fdiv (.int i) (.int j) = if divOk j then some (.int (i / j)) else none := rfl
@[simp] theorem o_mod {i j : Int} : Bop.sem .mod (.int i) (.int j) = if 0 < j then some (.int (i % j)) else none := rfl
theorem forL_inv {turn : D → CW.Env → SR} (P : Nat → CW.Env → Prop) : ∀ {ds : List D} {k : Nat} {Γ : CW.Env}, (∀ i d Γ, ds[i]? = some d → P (k + i) Γ → ∃ Γ', turn d Γ = .nx Γ' ∧ P (k + i + 1) Γ') → P k Γ → ∃ Γ', forL turn ds Γ = .nx Γ' ∧ P (k + ds.length) Γ'
  | [], k, Γ, _, h => ⟨Γ, rfl, h⟩
  | d :: ds, k, Γ, hs, h => by
    obtain ⟨Γ1, e1, p1⟩ := hs 0 d Γ rfl h
    obtain ⟨Γ2, e2, p2⟩ := forL_inv P (ds := ds) (k := k + 1) (Γ := Γ1) (fun i d' Γ' hi hp => by
      obtain ⟨Γ3, e3, p3⟩ := hs (i + 1) d' Γ' (by simpa using hi) (by rw [show k + (i + 1) = k + 1 + i by omega]; exact hp)
      exact ⟨Γ3, e3, by rw [show k + 1 + i + 1 = k + (i + 1) + 1 by omega]; exact p3⟩) p1
    refine ⟨Γ2, ?_, by rw [List.length_cons, show k + (ds.length + 1) = k + 1 + ds.length by omega]; exact p2⟩
    rw [forL, e1]
    exact e2
theorem comp_inv {T : D → CW.Env → R (Option D)} (P : Nat → List D → CW.Env → Prop) : ∀ {ds acc : List D} {k : Nat} {Γ : CW.Env}, (∀ i d ys Γ, ds[i]? = some d → P (k + i) ys Γ → ∃ o Γ', T d Γ = .ok o Γ' ∧ P (k + i + 1) (ys ++ o.toList) Γ') → P k acc.reverse Γ → ∃ ys Γ', compL T ds acc Γ = .ok ys Γ' ∧ P (k + ds.length) ys Γ'
  | [], acc, k, Γ, _, h => ⟨_, Γ, rfl, h⟩
  | d :: ds, acc, k, Γ, hs, h => by
    obtain ⟨o, Γ1, e1, p1⟩ := hs 0 d _ Γ rfl h
    have p1' : P (k + 1) (match o with | some x => x :: acc | none => acc).reverse Γ1 := by
      cases o with
      | none => simpa using p1
      | some x => simpa using p1
    obtain ⟨ys, Γ2, e2, p2⟩ := comp_inv P (ds := ds) (k := k + 1) (Γ := Γ1) (fun i d' ys Γ' hi hp => by
      obtain ⟨o3, Γ3, e3, p3⟩ := hs (i + 1) d' ys Γ' (by simpa using hi) (by rw [show k + (i + 1) = k + 1 + i by omega]; exact hp)
      exact ⟨o3, Γ3, e3, by rw [show k + 1 + i + 1 = k + (i + 1) + 1 by omega]; exact p3⟩) p1'
    refine ⟨ys, Γ2, ?_, by rw [List.length_cons, show k + (ds.length + 1) = k + 1 + ds.length by omega]; exact p2⟩
    rw [compL, e1]
    exact e2
def tabD (rows : List (List Int)) : D := .lst (rows.map fun r => .lst (r.map .int))
def movD (ps : List (Int × Int)) : D := .lst (ps.map pairD)
theorem ints_row {r : List Int} {d : D} {i : Nat} (h : (r.map D.int)[i]? = some d) : ∃ n, d = .int n := by
  rw [List.getElem?_map] at h
  cases e : r[i]? with
  | none => rw [e] at h; cases h
  | some n => rw [e] at h; cases h; exact ⟨n, rfl⟩
def ltM (p q : Int × Int) : Prop := p.1 < q.1 ∨ p.1 = q.1 ∧ p.2 < q.2
def okM (p : Int × Int) : Prop := (-5 ≤ p.1 ∧ p.1 ≤ 5) ∧ (-5 ≤ p.2 ∧ p.2 ≤ 5) ∧ ¬ (p.1 = 0 ∧ p.2 = 0)
structure MovOk (ps : List (Int × Int)) : Prop where
  len : ps.length ≤ 8
  ok : ∀ p ∈ ps, okM p
  up : ps.Pairwise ltM
theorem pair_at {ps : List (Int × Int)} {d : D} {i : Nat} (h : (ps.map pairD)[i]? = some d) : ∃ p, ps[i]? = some p ∧ d = pairD p := by
  rw [List.getElem?_map] at h
  obtain ⟨p, e, rfl⟩ := Option.map_eq_some_iff.mp h
  exact ⟨p, e, rfl⟩
@[simp] theorem eqD_pair {p q : Int × Int} : eqD (pairD p) (pairD q) = (p.1 == q.1 && p.2 == q.2) := by simp [pairD]
theorem shp_pair {n : Nat} {p : Int × Int} : (pairD p).shp (n + 1) = true := by simp [pairD, D.shp]
theorem shp_mov {n : Nat} {ps : List (Int × Int)} : (movD ps).shp (n + 2) = true := by
  simp only [movD, D.shp, List.all_map, List.all_eq_true]
  intro p _
  exact shp_pair
theorem shp_nil {n : Nat} : (D.lst []).shp (n + 1) = true := by simp [D.shp]
@[simp] theorem imm_pair {p : Int × Int} : (pairD p).imm = true := by simp [pairD]
theorem eqOk_nil : eqOk (.lst []) (.lst []) = true := by
  unfold eqOk
  rw [shp_nil (n := 63)]
  rfl
theorem ne_nil : Cop.sem .ne (.lst []) (.lst []) = some false := by
  rw [c_ne, if_pos eqOk_nil, eqD_lst, eqDs_nil]
  rfl
theorem eq_nil : Cop.sem .eq (.lst []) (.lst []) = some true := by
  rw [c_eq, if_pos eqOk_nil, eqD_lst, eqDs_nil]
theorem up_next {ps : List (Int × Int)} (h : ps.Pairwise ltM) {i : Nat} {p q : Int × Int} (hp : ps[i]? = some p) (hq : ps[i + 1]? = some q) : ltM p q := by
  obtain ⟨h1, e1⟩ := List.getElem?_eq_some_iff.mp hp
  obtain ⟨h2, e2⟩ := List.getElem?_eq_some_iff.mp hq
  subst e1
  subst e2
  exact List.pairwise_iff_getElem.mp h i (i + 1) h1 h2 (by omega)
theorem rng1 {n : Nat} (h : n ≤ 8) : rngD [.int 1, .int n] = some (1, n - 1) := by
  have hs : (8 : Int) ≤ (sizeLine : Int) := by decide
  simp only [rngD_eq, rngD0]
  rw [if_pos ⟨by omega, by omega, by omega, by omega, by omega⟩]
  congr 2
  omega
theorem ge_up {p q : Int × Int} (lt : ltM p q) : Cop.sem .ge (pairD p) (pairD q) = some false := by
  unfold ltM at lt
  simp only [Cop.sem, pairD]
  split
  · have : ¬ q.2 ≤ p.2 := by omega
    simp [this]
  · have : ¬ q.1 ≤ p.1 := by omega
    simp [this]
/-- a comprehension whose turns are known -/
theorem comp_filt {T : D → CW.Env → R (Option D)} (P : Nat → CW.Env → Prop) (f : D → Option D) : ∀ {ds acc : List D} {k : Nat} {Γ : CW.Env}, (∀ i d Γ, ds[i]? = some d → P (k + i) Γ → ∃ Γ', T d Γ = .ok (f d) Γ' ∧ P (k + i + 1) Γ') → P k Γ → ∃ Γ', compL T ds acc Γ = .ok (acc.reverse ++ ds.filterMap f) Γ' ∧ P (k + ds.length) Γ'
  | [], acc, k, Γ, _, h => ⟨Γ, by rw [compL, List.filterMap_nil, List.append_nil], h⟩
  | d :: ds, acc, k, Γ, hs, h => by
    obtain ⟨Γ1, e1, p1⟩ := hs 0 d Γ rfl h
    obtain ⟨Γ2, e2, p2⟩ := comp_filt P f (ds := ds) (acc := match f d with | some x => x :: acc | none => acc) (k := k + 1) (Γ := Γ1) (fun i d' Γ' hi hp => by
      obtain ⟨Γ3, e3, p3⟩ := hs (i + 1) d' Γ' (by simpa using hi) (by rw [show k + (i + 1) = k + 1 + i by omega]; exact hp)
      exact ⟨Γ3, e3, by rw [show k + 1 + i + 1 = k + (i + 1) + 1 by omega]; exact p3⟩) p1
    refine ⟨Γ2, ?_, by rw [List.length_cons, show k + (ds.length + 1) = k + 1 + ds.length by omega]; exact p2⟩
    rw [compL, e1, bind_ok]
    show compL T ds (match f d with | some x => x :: acc | none => acc) Γ1 = _
    refine e2.trans ?_
    congr 1
    cases e : f d with
    | none => simp [e]
    | some x => simp [e]
theorem filterMap_none {α β : Type} {f : α → Option β} {l : List α} (h : ∀ a ∈ l, f a = none) : l.filterMap f = [] := by
  rw [List.filterMap_eq_nil_iff]
  exact h
/-- a valid land -/
structure LandOk (rows : List (List Int)) (wd : Nat) (st ju : List (Int × Int)) : Prop where
  hi : 1 ≤ rows.length ∧ rows.length ≤ 6
  wi : 1 ≤ wd ∧ wd ≤ 6
  row : ∀ r ∈ rows, r.length = wd
  sto : MovOk st
  juo : MovOk ju
  dj : ∀ p ∈ st, p ∉ ju
def landD (rows : List (List Int)) (st ju : List (Int × Int)) : D := .tup [tabD rows, movD st, movD ju]
theorem tab_at {rows : List (List Int)} {a : Int} (ha : 0 ≤ a ∧ a < rows.length) : atI (rows.map fun r => D.lst (r.map .int)) a = some (.lst ((rows.getD a.toNat []).map .int)) := by
  rw [atI_of_nonneg ha.1, List.getElem?_map, List.getElem?_eq_getElem (by omega), List.getD_eq_getElem?_getD, List.getElem?_eq_getElem (by omega)]
  rfl
theorem row_at {r : List Int} {b : Int} (hb : 0 ≤ b ∧ b < r.length) : atI (r.map D.int) b = some (.int (r.getD b.toNat 0)) := by
  rw [atI_of_nonneg hb.1, List.getElem?_map, List.getElem?_eq_getElem (by omega), List.getD_eq_getElem?_getD, List.getElem?_eq_getElem (by omega)]
  rfl
theorem LandOk.len {rows : List (List Int)} {wd : Nat} {st ju : List (Int × Int)} (h : LandOk rows wd st ju) {a : Nat} (ha : a < rows.length) : (rows.getD a []).length = wd := by
  rw [List.getD_eq_getElem?_getD, List.getElem?_eq_getElem ha]
  exact h.row _ (List.getElem_mem ha)
def num (rows : List (List Int)) (a b : Int) : Int := (rows.getD a.toNat []).getD b.toNat 0
theorem rng0 {n : Int} (h : 0 ≤ n ∧ n ≤ 4096) : rngD [.int n] = some (0, n.toNat) := by
  have hs : (4096 : Int) ≤ (sizeLine : Int) := by decide
  simp only [rngD_eq, rngD0]
  rw [if_pos ⟨by omega, by omega⟩]
theorem mulOk_of {i j : Int} (h : -(2 ^ 64) < i ∧ i < 2 ^ 64) : mulOk i j = true := by
  rw [mulOk_eq]
  unfold mulOk0
  rw [decide_eq_true h.1, decide_eq_true h.2]
  rfl
@[simp] theorem o_pow {i j : Int} : Bop.sem .pow (.int i) (.int j) = if powOk i j then some (.int (i ^ j.toNat)) else none := rfl
theorem evSs_append {φ : FEnv} : ∀ {a b : List S} {Γ : CW.Env}, evSs φ (a ++ b) Γ = (evSs φ a Γ).seq (evSs φ b)
  | [], b, Γ => by rw [List.nil_append, evSs, seq_nx]
  | s :: a, b, Γ => by
    rw [List.cons_append, evSs, evSs]
    cases evS φ s Γ with
    | nx Γ1 => exact evSs_append
    | rt d Γ1 => rfl
    | bk Γ1 => rfl
    | exc c Γ1 => rfl
    | bad => rfl
theorem any_mov {p : Int × Int} {ps : List (Int × Int)} : ((ps.map pairD).any fun z => eqD z (pairD p)) = decide (p ∈ ps) := by
  rw [Bool.eq_iff_iff]
  simp only [List.any_eq_true, List.mem_map, decide_eq_true_eq]
  constructor
  · rintro ⟨z, ⟨q, hq, rfl⟩, e⟩
    rw [eqD_pair] at e
    simp only [Bool.and_eq_true, beq_iff_eq] at e
    rw [show p = q from Prod.ext e.1.symm e.2.symm]
    exact hq
  · intro h
    exact ⟨_, ⟨p, h, rfl⟩, by rw [eqD_pair]; simp⟩
theorem shp64 {ps : List (Int × Int)} : (D.lst (ps.map pairD)).shp 64 = true := shp_mov (n := 62)
theorem shp64p {p : Int × Int} : (pairD p).shp 64 = true := shp_pair (n := 63)
theorem in_mov {p : Int × Int} {ps : List (Int × Int)} : Cop.sem .isin (pairD p) (.lst (ps.map pairD)) = some (decide (p ∈ ps)) := by
  show (if (pairD p).shp 64 && (D.lst (ps.map pairD)).shp 64 then some ((ps.map pairD).any fun z => eqD z (pairD p)) else none) = _
  rw [shp64, shp64p, any_mov]
  rfl
theorem nin_mov {p : Int × Int} {ps : List (Int × Int)} : Cop.sem .notin (pairD p) (.lst (ps.map pairD)) = some (!decide (p ∈ ps)) := by
  show (if (pairD p).shp 64 && (D.lst (ps.map pairD)).shp 64 then some (!(ps.map pairD).any fun z => eqD z (pairD p)) else none) = _
  rw [shp64, shp64p, any_mov]
  rfl
theorem ne_mov {ps : List (Int × Int)} : Cop.sem .ne (.lst (ps.map pairD)) (.lst []) = some (!ps.isEmpty) := by
  have e : eqOk (.lst (ps.map pairD)) (.lst []) = true := by
    unfold eqOk
    rw [shp64, shp_nil (n := 63)]
    rfl
  rw [c_ne, if_pos e]
  cases ps with
  | nil => simp
  | cons p ps => simp [eqD, eqDs]
theorem ne_zero {p : Int × Int} : Cop.sem .ne (pairD p) (.tup [.int 0, .int 0]) = some (!decide (p = (0, 0))) := by
  have e : eqOk (pairD p) (.tup [.int 0, .int 0]) = true := by
    unfold eqOk
    rw [shp64p, show (D.tup [.int 0, .int 0]) = pairD (0, 0) from rfl, shp64p]
    rfl
  rw [c_ne, if_pos e, show (D.tup [.int 0, .int 0]) = pairD (0, 0) from rfl, eqD_pair]
  congr 2
  rw [Bool.eq_iff_iff]
  simp [Prod.ext_iff]
theorem pop_at {ds : List D} {i : Int} (h : 0 ≤ i ∧ i < ds.length) (hl : ds.length ≤ 4096) : popD (.lst ds) (some i) = (ds[i.toNat]?).map fun d => (d, .lst (ds.eraseIdx i.toNat)) := by
  have hs : seqIndex? i ds.length = some i.toNat := by
    unfold seqIndex?
    have : ¬ i < 0 := by omega
    simp [this, h.1, h.2]
  simp only [popD]
  have hr : popR i = true := by
    rw [popR_eq, popR0]
    simp only [decide_eq_true_eq]
    omega
  rw [if_pos hr, hs]
  rfl
theorem map_erase {α β : Type} {f : α → β} : ∀ {l : List α} {i : Nat}, (l.map f).eraseIdx i = (l.eraseIdx i).map f
  | [], _ => rfl
  | a :: l, 0 => rfl
  | a :: l, i + 1 => congrArg (f a :: ·) (map_erase (l := l) (i := i))
@[simp] theorem chkK_pair {p : Int × Int} {Γ : CW.Env} : chkK (pairD p) Γ = .ok (pairD p) Γ := by simp [chkK]
def rgM (q : Int × Int) : Prop := (-5 ≤ q.1 ∧ q.1 ≤ 5) ∧ (-5 ≤ q.2 ∧ q.2 ≤ 5)
@[simp] theorem at_3 {α : Type} {l : List α} : atI l 3 = l[3]? := atI_nat (n := 3)
@[simp] theorem at_4 {α : Type} {l : List α} : atI l 4 = l[4]? := atI_nat (n := 4)
theorem pairsOf_map : ∀ {ps : List (Int × Int)}, pairsOf (ps.map pairD) = some ps
  | [] => rfl
  | p :: ps => by
    rw [List.map_cons, pairsOf, pairsOf_map]
    rfl
theorem okL_mov {ck : Bool} {ps : List (Int × Int)} : okL ck (ps.map pairD) = some (.lst (ps.map pairD)) := by
  have : (ps.map pairD).all D.imm = true := by
    rw [List.all_eq_true]
    intro d hd
    obtain ⟨p, _, rfl⟩ := List.mem_map.mp hd
    exact imm_pair
  unfold okL
  rw [this, Bool.or_true, if_pos rfl]
theorem okL_ints {ck : Bool} {ns : List Int} : okL ck (ns.map D.int) = some (.lst (ns.map .int)) := by
  have : (ns.map D.int).all D.imm = true := by
    rw [List.all_eq_true]
    intro d hd
    obtain ⟨p, _, rfl⟩ := List.mem_map.mp hd
    exact imm_int _
  unfold okL
  rw [this, Bool.or_true, if_pos rfl]
theorem sort_mov {ck : Bool} {ps : List (Int × Int)} : Mk.sem ck .sorted (.lst (ps.map pairD)) = some (.lst ((ps.mergeSort leP).map pairD)) := by
  show (sortD (ps.map pairD)).bind (okL ck) = _
  have : sortD (ps.map pairD) = some ((ps.mergeSort leP).map pairD) := by
    cases ps with
    | nil => simp [sortD]
    | cons p r =>
      have e : intsOf ((p :: r).map pairD) = none := rfl
      unfold sortD
      rw [e, pairsOf_map]
      rfl
  rw [this]
  exact okL_mov
theorem sorted_ok {ps : List (Int × Int)} (nd : ps.Nodup) (ho : ∀ p ∈ ps, okM p) (hl : ps.length ≤ 8) : MovOk (ps.mergeSort leP) := by
  refine ⟨by rw [List.length_mergeSort]; exact hl, fun p hp => ho p (List.mem_mergeSort.mp hp), ?_⟩
  have s : (ps.mergeSort leP).Pairwise (fun a b => leP a b = true) := List.pairwise_mergeSort (fun a b c h1 h2 => by
    unfold leP at *
    simp only [Bool.or_eq_true, Bool.and_eq_true, decide_eq_true_eq] at *
    omega) (fun a b => by
    unfold leP
    simp only [Bool.or_eq_true, Bool.and_eq_true, decide_eq_true_eq]
    omega) ps
  have n2 : (ps.mergeSort leP).Nodup := (List.mergeSort_perm ps leP).nodup_iff.mpr nd
  refine List.Pairwise.imp₂ (fun a b h1 h2 => ?_) s n2
  unfold leP at h1
  simp only [Bool.or_eq_true, Bool.and_eq_true, decide_eq_true_eq] at h1
  unfold ltM
  rcases h1 with h | ⟨h, h'⟩
  · exact .inl h
  · refine .inr ⟨h, ?_⟩
    have : a.2 ≠ b.2 := fun e => h2 (Prod.ext h e)
    omega
def intsD (ns : List Int) : D := .lst (ns.map .int)
theorem int_at {r : List Int} {d : D} {i : Nat} (h : (r.map D.int)[i]? = some d) : ∃ n, r[i]? = some n ∧ d = .int n := by
  rw [List.getElem?_map] at h
  obtain ⟨n, e, rfl⟩ := Option.map_eq_some_iff.mp h
  exact ⟨n, e, rfl⟩
theorem rngL_ints {n : Nat} : rngL 0 n = ((List.range n).map fun (i : Nat) => (0 : Int) + i).map D.int := by
  unfold rngL
  rw [List.map_map]
  rfl
/-- a comprehension that draws a number at each turn -/
theorem comp_nums {φ : FEnv} {elt : CW.E} {n : Nat} {L : Nat → List (Option D) → Prop} {Γ : CW.Env}
    (hs : ∀ i Γ, i < n → L i Γ → ∃ x Γ', compT φ [11] (.nm 11 false) none elt (.int (0 + (i : Int))) Γ = .ok (some (.int x)) Γ' ∧ L (i + 1) Γ') (h : L 0 Γ) :
    ∃ (ns : List Int) (Γ' : CW.Env), compL (compT φ [11] (.nm 11 false) none elt) (rngL 0 n) [] Γ = .ok (ns.map .int) Γ' ∧ ns.length = n ∧ L n Γ' := by
  obtain ⟨ys, Γ', e, ns, rfl, hl, hL⟩ := comp_inv (T := compT φ [11] (.nm 11 false) none elt) (fun k ys Γ => ∃ ns : List Int, ys = ns.map .int ∧ ns.length = k ∧ L k Γ) (ds := rngL 0 n) (acc := []) (k := 0) (Γ := Γ) (fun i d ys Γ hd ⟨ns, hy, hl, hL⟩ => by
    subst hy
    have hi : i < n := by
      have := (List.getElem?_eq_some_iff.mp hd).1
      rw [rngL_len] at this
      exact this
    rw [rngL_get hi] at hd
    cases hd
    obtain ⟨x, Γ', e, hL'⟩ := hs i Γ hi (by simpa using hL)
    refine ⟨some (.int x), Γ', e, ns ++ [x], by simp, by simp [hl], ?_⟩
    rw [Nat.zero_add]
    exact hL') ⟨[], rfl, rfl, h⟩
  refine ⟨ns, Γ', e, ?_, ?_⟩
  · rw [hl, rngL_len]
    omega
  · rw [rngL_len, Nat.zero_add] at hL
    exact hL
theorem cut_row {ns : List Int} {h w i : Nat} (hl : ns.length = h * w) (hi : i < h) : cutD (ns.map D.int) (some ((w : Int) * (i : Int))) (some ((w : Int) * (i : Int) + (w : Int))) = ((ns.drop (w * i)).take w).map D.int := by
  have hle : w * i + w ≤ h * w := by
    have := Nat.mul_le_mul_left w (show i + 1 ≤ h by omega)
    rw [Nat.mul_add, Nat.mul_one, Nat.mul_comm w h] at this
    exact this
  unfold cutD
  rw [← Int.natCast_mul, ← Int.natCast_add, HT.sIx_nat, HT.sIx_nat, List.length_map, hl, Nat.min_eq_left hle, Nat.min_eq_left (show w * i ≤ h * w by omega), List.map_take, List.map_drop, Nat.add_sub_cancel_left]
theorem cut_len {ns : List Int} {h w i : Nat} (hl : ns.length = h * w) (hi : i < h) : ((ns.drop (w * i)).take w).length = w := by
  have hle : w * i + w ≤ h * w := by
    have := Nat.mul_le_mul_left w (show i + 1 ≤ h by omega)
    rw [Nat.mul_add, Nat.mul_one, Nat.mul_comm w h] at this
    exact this
  rw [List.length_take, List.length_drop, hl]
  omega
/-- a comprehension that makes a row at each turn -/
theorem comp_rows {φ : FEnv} {elt : CW.E} {n w : Nat} {L : CW.Env → Prop} {Γ : CW.Env}
    (hs : ∀ i Γ, i < n → L Γ → ∃ (r : List Int) (Γ' : CW.Env), compT φ [12] (.nm 12 false) none elt (.int (0 + (i : Int))) Γ = .ok (some (.lst (r.map .int))) Γ' ∧ r.length = w ∧ L Γ') (h : L Γ) :
    ∃ (rows : List (List Int)) (Γ' : CW.Env), compL (compT φ [12] (.nm 12 false) none elt) (rngL 0 n) [] Γ = .ok (rows.map fun r => .lst (r.map .int)) Γ' ∧ rows.length = n ∧ (∀ r ∈ rows, r.length = w) ∧ L Γ' := by
  obtain ⟨ys, Γ', e, rows, rfl, hl, hw, hL⟩ := comp_inv (T := compT φ [12] (.nm 12 false) none elt) (fun k ys Γ => ∃ rows : List (List Int), ys = rows.map (fun r => .lst (r.map .int)) ∧ rows.length = k ∧ (∀ r ∈ rows, r.length = w) ∧ L Γ) (ds := rngL 0 n) (acc := []) (k := 0) (Γ := Γ) (fun i d ys Γ hd ⟨rows, hy, hl, hw, hL⟩ => by
    subst hy
    have hi : i < n := by
      have := (List.getElem?_eq_some_iff.mp hd).1
      rw [rngL_len] at this
      exact this
    rw [rngL_get hi] at hd
    cases hd
    obtain ⟨r, Γ', e, hr, hL'⟩ := hs i Γ hi hL
    refine ⟨some (.lst (r.map .int)), Γ', e, rows ++ [r], by simp, by simp [hl], ?_, hL'⟩
    intro r' hr'
    rcases List.mem_append.mp hr' with h | h
    · exact hw r' h
    · rw [List.mem_singleton.mp h]
      exact hr) ⟨[], rfl, rfl, by simp, h⟩
  refine ⟨rows, Γ', e, ?_, hw, hL⟩
  rw [hl, rngL_len]
  omega
theorem len4096 {n : Nat} (h : n ≤ 4096) : n ≤ sizeLine := Nat.le_trans h (by decide)
theorem cat_r {ck : Bool} {a : List (Int × Int)} {j : Int × Int} (h : a.length ≤ 8) : catD ck (.lst (a.map pairD)) (.lst [pairD j]) = some (.lst ((a ++ [j]).map pairD)) := by
  have e : a.map pairD ++ [pairD j] = (a ++ [j]).map pairD := by simp
  simp only [catD]
  rw [if_pos (len4096 (by simp; omega)), e, okL_mov]
theorem cat_l {ck : Bool} {a : List (Int × Int)} {j : Int × Int} (h : a.length ≤ 8) : catD ck (.lst [pairD j]) (.lst (a.map pairD)) = some (.lst ((j :: a).map pairD)) := by
  simp only [catD]
  rw [if_pos (len4096 (by simp; omega))]
  exact okL_mov (ps := j :: a)
theorem cut7 {a : List (Int × Int)} : cutD (a.map pairD) none (some 7) = (a.take 7).map pairD := by
  unfold cutD
  rw [HT.sIx_none, show (7 : Int) = ((7 : Nat) : Int) from rfl, HT.sIx_nat, List.length_map, List.drop_zero, List.map_take, Nat.sub_zero]
  by_cases h : 7 ≤ a.length
  · rw [Nat.min_eq_left h]
  · rw [Nat.min_eq_right (by omega), List.take_of_length_le (by simp), List.take_of_length_le (by simp; omega)]
theorem up_nodup {ps : List (Int × Int)} (h : ps.Pairwise ltM) : ps.Nodup := by
  refine List.Pairwise.imp (fun {a b} hab e => ?_) h
  subst e
  unfold ltM at hab
  omega
theorem mk_mov {ck : Bool} {ps : List (Int × Int)} : Mk.sem ck .list (movD ps) = some (movD ps) := okL_mov
theorem mk_row {ck : Bool} {r : List Int} : Mk.sem ck .list (.lst (r.map .int)) = some (.lst (r.map .int)) := okL_ints
theorem fm_some {α : Type} : ∀ {l : List α}, l.filterMap (fun x => some x) = l
  | [] => rfl
  | a :: l => by rw [List.filterMap_cons_some rfl, fm_some]
mutual
theorem eqD_refl : ∀ {n : Nat} {d : D}, d.shp n = true → eqD d d = true
  | _, .non, _ => rfl
  | _, .bl b, _ => by simp [eqD]
  | _, .int b, _ => by simp [eqD]
  | _, .str b, _ => by simp [eqD]
  | 0, .tup ds, h => by simp [D.shp] at h
  | 0, .lst ds, h => by simp [D.shp] at h
  | n + 1, .tup ds, h => by
    rw [eqD_tup]
    exact eqDs_refl (n := n) (by simpa [D.shp] using h)
  | n + 1, .lst ds, h => by
    rw [eqD_lst]
    exact eqDs_refl (n := n) (by simpa [D.shp] using h)
  | _, .scr b, h => by simp [D.shp] at h
  | _, .dct _ _, h => by simp [D.shp] at h
  | _, .exn _, h => by simp [D.shp] at h
theorem eqDs_refl : ∀ {n : Nat} {ds : List D}, (∀ d ∈ ds, d.shp n = true) → eqDs ds ds = true
  | _, [], _ => by simp [eqDs]
  | n, d :: ds, h => by
    rw [eqDs_cons, eqD_refl (h d List.mem_cons_self), eqDs_refl fun d hd => h d (List.mem_cons_of_mem _ hd)]
    rfl
end
theorem shp_row {n : Nat} {r : List Int} : (D.lst (r.map .int)).shp (n + 1) = true := by
  simp [D.shp]
theorem shp_tab {n : Nat} {rows : List (List Int)} : (tabD rows).shp (n + 2) = true := by
  simp only [tabD, D.shp, List.all_map, List.all_eq_true]
  intro r _
  simp [Function.comp, D.shp]
theorem shp_land {n : Nat} {rows : List (List Int)} {st ju : List (Int × Int)} : (landD rows st ju).shp (n + 3) = true := by
  unfold landD
  rw [D.shp]
  simp only [List.all_cons, List.all_nil, Bool.and_true, Bool.and_eq_true]
  exact ⟨shp_tab, shp_mov, shp_mov⟩
theorem eq_land {rows : List (List Int)} {st ju : List (Int × Int)} : Cop.sem .eq (landD rows st ju) (landD rows st ju) = some true := by
  have h : (landD rows st ju).shp 64 = true := shp_land (n := 61)
  have e : eqOk (landD rows st ju) (landD rows st ju) = true := by
    unfold eqOk
    rw [h]
    rfl
  rw [c_eq, if_pos e, eqD_refl h]
theorem land_at {rows : List (List Int)} {wd : Nat} {st ju : List (Int × Int)} (h : LandOk rows wd st ju) {a b : Int} (ha : 0 ≤ a ∧ a < rows.length) (hb : 0 ≤ b ∧ b < wd) :
    ∃ t r, atD (landD rows st ju) (.int 0) = some t ∧ atD t (.int a) = some r ∧ atD r (.int b) = some (.int (num rows a b)) := by
  have hl := h.len (a := a.toNat) (by omega)
  exact ⟨tabD rows, _, rfl, tab_at ha, row_at (r := rows.getD a.toNat []) (b := b) (by rw [hl]; exact hb)⟩
theorem wide_at {rows : List (List Int)} {wd : Nat} {st ju : List (Int × Int)} (h : LandOk rows wd st ju) : ∃ r, atD (landD rows st ju) (.int 0) = some (tabD rows) ∧ atD (tabD rows) (.int 0) = some (.lst r) ∧ r.length = wd := by
  have hl := h.len (a := 0) (by have := h.hi; omega)
  exact ⟨(rows.getD 0 []).map .int, rfl, tab_at (a := 0) (by have := h.hi; omega), by rw [List.length_map]; exact hl⟩
theorem len_tab {rows : List (List Int)} : Bi.sem .len [tabD rows] = some (.int rows.length) := by
  unfold tabD
  rw [b_len, List.length_map]
def inT (rows : List (List Int)) (wd : Nat) (q : Int × Int) : Bool := decide (0 ≤ q.1) && decide (q.1 < rows.length) && (decide (0 ≤ q.2) && decide (q.2 < wd))
theorem inT_iff {rows : List (List Int)} {wd : Nat} {q : Int × Int} : inT rows wd q = true ↔ (0 ≤ q.1 ∧ q.1 < rows.length) ∧ (0 ≤ q.2 ∧ q.2 < wd) := by
  unfold inT
  simp only [Bool.and_eq_true, decide_eq_true_eq]
def tgt (c p : Int × Int) : Int × Int := (c.1 + p.1, c.2 + p.2)
def up (rows : List (List Int)) (wd : Nat) (c q : Int × Int) : Bool := inT rows wd q && decide (num rows c.1 c.2 < num rows q.1 q.2)
def led (rows : List (List Int)) (wd : Nat) (c : Int × Int) (ms : List (Int × Int)) : List (Int × Int) := (ms.map (tgt c)).filter (up rows wd c)
theorem fm_map {α β : Type} {f : α → β} {l : List α} : l.filterMap (fun x => some (f x)) = l.map f := by
  induction l with
  | nil => rfl
  | cons a l ih =>
    simp only [List.filterMap_cons, List.map_cons, ih]
theorem pairOf_pair {p : Int × Int} : pairOf (pairD p) = some p := rfl
theorem eqD_movs : ∀ {a b : List (Int × Int)}, eqDs (a.map pairD) (b.map pairD) = decide (a = b)
  | [], [] => by simp [eqDs]
  | [], q :: b => by simp [eqDs]
  | p :: a, [] => by simp [eqDs]
  | p :: a, q :: b => by
    rw [List.map_cons, List.map_cons, eqDs_cons, eqD_movs, eqD_pair, Bool.eq_iff_iff]
    simp [Prod.ext_iff]
theorem eqOk_movs {a b : List (Int × Int)} : eqOk (.lst (a.map pairD)) (.lst (b.map pairD)) = true := by
  unfold eqOk
  rw [shp64, shp64]
  rfl
theorem ne_movs {a b : List (Int × Int)} : Cop.sem .ne (.lst (a.map pairD)) (.lst (b.map pairD)) = some (!decide (a = b)) := by
  rw [c_ne, if_pos eqOk_movs, eqD_lst, eqD_movs]
theorem eq_movs {a b : List (Int × Int)} : Cop.sem .eq (.lst (a.map pairD)) (.lst (b.map pairD)) = some (decide (a = b)) := by
  rw [c_eq, if_pos eqOk_movs, eqD_lst, eqD_movs]
theorem eq_mov0 {a : List (Int × Int)} : Cop.sem .eq (.lst (a.map pairD)) (.lst []) = some (decide (a = [])) := eq_movs (b := [])
theorem ne_pair {p q : Int × Int} : Cop.sem .ne (pairD p) (pairD q) = some (!decide (p = q)) := by
  have e : eqOk (pairD p) (pairD q) = true := by
    unfold eqOk
    rw [shp64p, shp64p]
    rfl
  rw [c_ne, if_pos e, eqD_pair]
  congr 2
  rw [Bool.eq_iff_iff]
  simp [Prod.ext_iff]
theorem tgt_inj {c p q : Int × Int} (h : tgt c p = tgt c q) : p = q := by
  unfold tgt at h
  have h1 := congrArg Prod.fst h
  have h2 := congrArg Prod.snd h
  simp only at h1 h2
  exact Prod.ext (by omega) (by omega)
theorem led_up {rows : List (List Int)} {wd : Nat} {c : Int × Int} {ms : List (Int × Int)} (h : ms.Pairwise ltM) : (led rows wd c ms).Pairwise ltM := by
  unfold led
  refine List.Pairwise.filter _ (List.pairwise_map.mpr (h.imp fun {a b} hab => ?_))
  unfold ltM tgt at *
  simp only
  omega
theorem led_len {rows : List (List Int)} {wd : Nat} {c : Int × Int} {ms : List (Int × Int)} : (led rows wd c ms).length ≤ ms.length := by
  unfold led
  refine Nat.le_trans (List.length_filter_le _ _) ?_
  rw [List.length_map]
  exact Nat.le_refl _
theorem led_mem {rows : List (List Int)} {wd : Nat} {c q : Int × Int} {ms : List (Int × Int)} : q ∈ led rows wd c ms ↔ (∃ p ∈ ms, tgt c p = q) ∧ up rows wd c q = true := by
  unfold led
  rw [List.mem_filter, List.mem_map]
theorem up_iff {rows : List (List Int)} {wd : Nat} {c q : Int × Int} : up rows wd c q = true ↔ inT rows wd q = true ∧ num rows c.1 c.2 < num rows q.1 q.2 := by
  unfold up
  rw [Bool.and_eq_true, decide_eq_true_eq]
theorem sort_up {ps : List (Int × Int)} (h : ps.Pairwise ltM) : ps.mergeSort leP = ps := List.mergeSort_of_pairwise (h.imp fun {a b} hab => by
  unfold ltM at hab
  unfold leP
  simp only [Bool.or_eq_true, Bool.and_eq_true, decide_eq_true_eq]
  omega)
theorem led_nil {rows : List (List Int)} {wd : Nat} {c : Int × Int} : led rows wd c [] = [] := rfl
/-- two tables in which the same numbers are greater -/
def Alike (rows rows' : List (List Int)) (wd : Nat) : Prop := ∀ c q : Int × Int, inT rows wd c = true → up rows' wd c q = up rows wd c q
theorem led_alike {rows rows' : List (List Int)} {wd : Nat} {c : Int × Int} {ms : List (Int × Int)} (h : Alike rows rows' wd) (hc : inT rows wd c = true) : led rows' wd c ms = led rows wd c ms := by
  unfold led
  congr 1
  funext q
  exact h c q hc
theorem inT_len {rows r : List (List Int)} {wd : Nat} {q : Int × Int} (h : r.length = rows.length) : inT r wd q = inT rows wd q := by
  unfold inT
  rw [h]
theorem cat_movs {ck : Bool} {a b : List (Int × Int)} (h : a.length + b.length ≤ 4096) : catD ck (.lst (a.map pairD)) (.lst (b.map pairD)) = some (.lst ((a ++ b).map pairD)) := by
  simp only [catD]
  rw [if_pos (len4096 (by simpa using h)), ← List.map_append, okL_mov]
theorem cut2 {a b c d : D} : cutD [a, b, c, d] none (some 2) = [a, b] := rfl
theorem LandOk.swap {rows : List (List Int)} {wd : Nat} {st ju : List (Int × Int)} (h : LandOk rows wd st ju) : LandOk rows wd ju st := ⟨h.hi, h.wi, h.row, h.juo, h.sto, fun p hp hq => h.dj p hq hp⟩
theorem MovOk.nil : MovOk [] := ⟨by simp, by intro p hp; simp at hp, List.Pairwise.nil⟩
theorem LandOk.bare {rows : List (List Int)} {wd : Nat} {st ju : List (Int × Int)} (h : LandOk rows wd st ju) : LandOk rows wd [] [] := ⟨h.hi, h.wi, h.row, MovOk.nil, MovOk.nil, by intro p hp; simp at hp⟩
theorem filter_erase : ∀ {l : List (Int × Int)} {i : Nat} (hi : i < l.length), l.Nodup → l.filter (fun q => !decide (q = l[i])) = l.eraseIdx i
  | a :: l, 0, _, nd => by
    have h := (List.nodup_cons.mp nd).1
    rw [List.getElem_cons_zero, List.filter_cons_of_neg (by simp), List.eraseIdx_cons_zero, List.filter_eq_self]
    intro q hq
    have : q ≠ a := fun e => h (e ▸ hq)
    simpa using this
  | a :: l, i + 1, hi, nd => by
    have h := List.nodup_cons.mp nd
    have hi' : i < l.length := by simpa using hi
    have hne : a ≠ l[i] := fun e => h.1 (e ▸ List.getElem_mem hi')
    rw [List.getElem_cons_succ, List.filter_cons_of_pos (by simpa using hne), List.eraseIdx_cons_succ, filter_erase hi' h.2]
theorem led_erase {rows : List (List Int)} {wd : Nat} {c : Int × Int} {st : List (Int × Int)} {i : Nat} (hi : i < st.length) (nd : st.Nodup) :
    led rows wd c (st.eraseIdx i) = (led rows wd c st).filter (fun q => !decide (q = tgt c st[i])) := by
  rw [← filter_erase hi nd]
  unfold led
  rw [List.filter_filter, List.filter_map, List.filter_map, List.filter_filter]
  congr 1
  congr 1
  funext q
  simp only [Function.comp]
  have : decide (tgt c q = tgt c st[i]) = decide (q = st[i]) := by
    rw [Bool.eq_iff_iff, decide_eq_true_eq, decide_eq_true_eq]
    exact ⟨tgt_inj, fun e => by rw [e]⟩
  rw [this, Bool.and_comm]
theorem LandOk.less {rows : List (List Int)} {wd : Nat} {st ju : List (Int × Int)} (h : LandOk rows wd st ju) {i : Nat} : LandOk rows wd (st.eraseIdx i) ju :=
  ⟨h.hi, h.wi, h.row, ⟨Nat.le_trans (List.length_eraseIdx_le st i) h.sto.len, fun p hp => h.sto.ok p (List.mem_of_mem_eraseIdx hp), h.sto.up.sublist (List.eraseIdx_sublist st i)⟩, h.juo, fun p hp => h.dj p (List.mem_of_mem_eraseIdx hp)⟩
theorem cut_to {st : List (Int × Int)} {i : Nat} (hi : i < st.length) : cutD (st.map pairD) none (some (i : Int)) = (st.take i).map pairD := by
  unfold cutD
  rw [HT.sIx_none, HT.sIx_nat, List.length_map, Nat.min_eq_left (by omega), List.drop_zero, Nat.sub_zero, List.map_take]
theorem cut_from {st : List (Int × Int)} {i : Nat} (hi : i < st.length) : cutD (st.map pairD) (some ((i : Int) + 1)) none = (st.drop (i + 1)).map pairD := by
  unfold cutD
  rw [HT.sIx_none, show (i : Int) + 1 = ((i + 1 : Nat) : Int) by omega, HT.sIx_nat, List.length_map, Nat.min_eq_left (by omega), List.map_drop, List.take_of_length_le (by simp)]
@[simp] theorem r_drop {φ : FEnv} {x : Nat} {Γ : CW.Env} : evS φ (.drop x) Γ = .nx (Γ.set x none) := by simp only [evS]
@[simp] theorem c_notn {a b : Bool} : Cop.sem .notn (.bl a) (.bl b) = some (!(a == b)) := rfl
theorem num_map {rows : List (List Int)} {wd : Nat} {st ju : List (Int × Int)} (h : LandOk rows wd st ju) {f : Int → Int} {q : Int × Int} (hq : inT rows wd q = true) : num (rows.map (List.map f)) q.1 q.2 = f (num rows q.1 q.2) := by
  obtain ⟨⟨h1, h2⟩, h3, h4⟩ := inT_iff.mp hq
  have i1 : q.1.toNat < rows.length := by omega
  have hl := h.len i1
  have e1 : (rows.map (List.map f)).getD q.1.toNat [] = (rows.getD q.1.toNat []).map f := by
    rw [List.getD_eq_getElem?_getD, List.getD_eq_getElem?_getD, List.getElem?_map]
    cases rows[q.1.toNat]? <;> rfl
  unfold num
  rw [e1]
  generalize rows.getD q.1.toNat [] = r at hl
  have i2 : q.2.toNat < r.length := by omega
  rw [List.getD_eq_getElem?_getD, List.getD_eq_getElem?_getD, List.getElem?_map, List.getElem?_eq_getElem i2]
  rfl
theorem alike_map {rows : List (List Int)} {wd : Nat} {st ju : List (Int × Int)} (h : LandOk rows wd st ju) {f : Int → Int} (hf : ∀ a b : Int, f a < f b ↔ a < b) : Alike rows (rows.map (List.map f)) wd := fun c q hc => by
  unfold up
  rw [inT_len (r := rows.map (List.map f)) (rows := rows) (by rw [List.length_map])]
  by_cases hq : inT rows wd q = true
  · rw [num_map h hc, num_map h hq, Bool.eq_iff_iff]
    simp only [hq, Bool.true_and, decide_eq_true_eq]
    exact hf _ _
  · have : inT rows wd q = false := by simpa using hq
    rw [this]
    rfl
theorem LandOk.mapped {rows : List (List Int)} {wd : Nat} {st ju : List (Int × Int)} (h : LandOk rows wd st ju) {f : Int → Int} : LandOk (rows.map (List.map f)) wd st ju :=
  ⟨by rw [List.length_map]; exact h.hi, h.wi, fun r hr => by
    obtain ⟨r', h', rfl⟩ := List.mem_map.mp hr
    rw [List.length_map]
    exact h.row r' h', h.sto, h.juo, h.dj⟩
end CWL
namespace CWL
open PySem L2 CW
section
variable {φ : FEnv} {Γ : CW.Env}
@[simp] theorem r_par {i j : Nat} {a b : CW.E} : evS φ (.par i j a b) Γ = (evE φ a Γ).toS fun x Γ => (evE φ b Γ).toS fun y Γ => .nx (CW.put (CW.put Γ i x) j y) := by simp only [evS]
@[simp] theorem r_tupI {es : List CW.E} {x : Nat} : evE φ (.tupI es x) Γ = (evEs φ es Γ).bind fun ds Γ => (R.ofo ((CW.get Γ x).bind twoD) Γ).bind fun zs Γ => .ok (.tup (ds ++ zs)) (Γ.set x none) := by simp only [evE]
@[simp] theorem r_dnew : evE φ .dnew Γ = .ok (.dct [] []) Γ := by simp only [evE]
@[simp] theorem r_dget {a k : CW.E} : evE φ (.dget a k) Γ = (evE φ a Γ).bind fun x Γ => (evE φ k Γ).bind fun y => R.ofo (getS x y) := by simp only [evE]
@[simp] theorem r_lce {own : List Nat} {tg : Tg} {e : CW.E} {c : Option CW.E} {y : CW.E} : evE φ (.lce own tg e c y) Γ = (evE φ e Γ).bind fun x Γ1 => (R.ofo (itemsOf false x) Γ1).bind fun ds Γ1 => (compL (compT φ own tg c y) (numD ds) [] (wipeE Γ1 own)).bind fun ys Γ2 => .ok (.lst ys) (backE Γ1 Γ2 own) := by
  simp only [evE]
  rfl
def revK (ck : Bool) (x : D) (Γ : CW.Env) : R D := match x with
  | .lst ds => R.ofo (okL ck ds.reverse) Γ
  | _ => .bad
@[simp] theorem revK_lst {ck : Bool} {ds : List D} : revK ck (.lst ds) Γ = R.ofo (okL ck ds.reverse) Γ := rfl
@[simp] theorem r_rev {ck : Bool} {a : CW.E} : evE φ (.rev ck a) Γ = (evE φ a Γ).bind (revK ck) := by
  simp only [evE]
  rfl
def putK2 (d : D) (key : List Key) (t : D) : Option D := match t with
  | .dct ks vs => if vs.all D.imm && d.imm && decide (ks.length < sizeLine) then some (D.dct (putS ks vs key d).1 (putS ks vs key d).2) else none
  | _ => none
@[simp] theorem r_dput {x : Nat} {k e : CW.E} : evS φ (.dput x k e) Γ = (evE φ e Γ).toS fun d Γ => (evE φ k Γ).toS fun q Γ => (R.ofo ((keyOf q).bind fun key => (CW.get Γ x).bind (putK2 d key)) Γ).toS fun t Γ => .nx (CW.put Γ x t) := by
  simp only [evS]
  rfl
@[simp] theorem r_setq {x : Nat} {path : List CW.E} {i e : CW.E} : evS φ (.setq x path i e) Γ = (evE φ e Γ).toS fun d Γ => (evEs φ path Γ).toS fun ps Γ => (R.ofo (lsP Γ x ps) Γ).toS fun is Γ => (evE φ i Γ).toS fun k Γ => (R.ofo ((toInt k).bind fun k => (CW.get Γ x).bind fun t => setAt t (is ++ [k]) d) Γ).toS fun t Γ => .nx (CW.put Γ x t) := by simp only [evS]
@[simp] theorem r_appp {x : Nat} {path : List CW.E} {e : CW.E} : evS φ (.appp x path e) Γ = (evEs φ path Γ).toS fun ps Γ => (R.ofo (lsP Γ x ps) Γ).toS fun is Γ => (evE φ e Γ).toS fun d Γ => (R.ofo ((CW.get Γ x).bind fun t => appAt t is d) Γ).toS fun t Γ => .nx (CW.put Γ x t) := by simp only [evS]
@[simp] theorem r_clrp {x : Nat} {path : List CW.E} : evS φ (.clrp x path) Γ = (evEs φ path Γ).toS fun ps Γ => (R.ofo (lsP Γ x ps) Γ).toS fun is Γ => (R.ofo ((CW.get Γ x).bind fun t => modAt t is []) Γ).toS fun t Γ => .nx (CW.put Γ x t) := by simp only [evS]
def fappK (is : List Int) (c : Int) (t : D) : Option D := (pathD t is).bind fun z => match z with
  | .lst ds => (appEach (.int c) ds).bind fun ds' => modAt t is ds'
  | _ => none
@[simp] theorem r_fapp {x y : Nat} {path : List CW.E} {c : Int} : evS φ (.fapp x path y c) Γ = (evEs φ path Γ).toS fun ps Γ => (R.ofo (lsP Γ x ps) Γ).toS fun is Γ => (R.ofo ((CW.get Γ x).bind (fappK is c)) Γ).toS fun t Γ => .nx ((CW.put Γ x t).set y none) := by
  simp only [evS]
  rfl
end
@[simp] theorem mulOk_7 {j : Int} : mulOk 7 j = true := mulOk_of (by omega)
@[simp] theorem mulOk_3 {j : Int} : mulOk 3 j = true := mulOk_of (by omega)
@[simp] theorem mulOk_7919 {j : Int} : mulOk 7919 j = true := mulOk_of (by omega)
@[simp] theorem mulOk_40692 {j : Int} : mulOk 40692 j = true := mulOk_of (by omega)
theorem mulOk_of2 {i j : Int} (h : -(2 ^ 64) < j ∧ j < 2 ^ 64) : mulOk i j = true := by
  rw [mulOk_eq]
  unfold mulOk0
  rw [decide_eq_true h.1, decide_eq_true h.2]
  simp
@[simp] theorem mulOk_r48271 {i : Int} : mulOk i 48271 = true := mulOk_of2 (by omega)
@[simp] theorem mulOk_r69621 {i : Int} : mulOk i 69621 = true := mulOk_of2 (by omega)
@[simp] theorem mulOk_q1 {x j : Int} : mulOk (x % 2147483647) j = true := mulOk_of (by omega)
end CWL
namespace CWL
open PySem L2 CW
section
variable {φ : FEnv} {own : List Nat} {tg : Tg} {c : Option CW.E} {elt src : CW.E} {Γ Γ' Γ1 Γ2 : CW.Env} {ds : List D} {x : D} {tp : Bool}
theorem wipe_back (h : wipeE Γ2 own = wipeE Γ own) : backE Γ Γ2 own = Γ := by
  have hl : Γ2.length = Γ.length := by
    have := congrArg List.length h
    rwa [wipeE_len, wipeE_len] at this
  apply List.ext_getElem?
  intro j
  by_cases e : j ∈ own
  · exact backE_in hl e
  · rw [backE_out e]
    have := congrArg (fun l => l[j]?) h
    simp only [wipeE_out e] at this
    exact this
theorem compT_wipe (h : wipeE Γ' own = wipeE Γ own) (d : D) : compT φ own tg c elt d Γ' = compT φ own tg c elt d Γ := by
  unfold compT
  rw [h]
  cases tg.bind d (wipeE Γ own) <;> rfl
theorem comp_pure {f : D → Option D} : ∀ {ds acc : List D} {Γ1 : CW.Env}, wipeE Γ1 own = wipeE Γ own → (∀ d ∈ ds, ∃ Γ', compT φ own tg c elt d Γ = .ok (f d) Γ' ∧ wipeE Γ' own = wipeE Γ own) →
    ∃ Γ2, compL (compT φ own tg c elt) ds acc Γ1 = .ok (acc.reverse ++ ds.filterMap f) Γ2 ∧ wipeE Γ2 own = wipeE Γ own
  | [], acc, Γ1, h1, h => ⟨Γ1, by simp [compL], h1⟩
  | d :: ds, acc, Γ1, h1, h => by
    obtain ⟨Γ', e, w⟩ := h d List.mem_cons_self
    rw [compL, compT_wipe h1, e, bind_ok]
    cases hf : f d with
    | none =>
      obtain ⟨Γ2, e2, w2⟩ := comp_pure (ds := ds) (acc := acc) w fun d hd => h d (List.mem_cons_of_mem _ hd)
      exact ⟨Γ2, by rw [List.filterMap_cons_none hf]; exact e2, w2⟩
    | some y =>
      obtain ⟨Γ2, e2, w2⟩ := comp_pure (ds := ds) (acc := y :: acc) w fun d hd => h d (List.mem_cons_of_mem _ hd)
      exact ⟨Γ2, by rw [List.filterMap_cons_some hf, e2, List.reverse_cons, List.append_assoc]; rfl, w2⟩
theorem wipe_twice : wipeE (wipeE Γ own) own = wipeE Γ own := wipeE_idem
/-- a comprehension that changes nothing -/
theorem lcl_p (f : D → Option D) (hs : evE φ src Γ = .ok x Γ) (hi : itemsOf tp x = some ds) (h : ∀ d ∈ ds, ∃ Γ', compT φ own tg c elt d Γ = .ok (f d) Γ' ∧ wipeE Γ' own = wipeE Γ own) :
    evE φ (.lcl tp own tg src c elt) Γ = .ok (.lst (ds.filterMap f)) Γ := by
  obtain ⟨Γ2, e, w⟩ := comp_pure (f := f) (ds := ds) (acc := []) (Γ1 := wipeE Γ own) wipe_twice h
  have e' := r_lcl (φ := φ) (tp := tp) (own := own) (tg := tg) (e := src) (c := c) (y := elt) (Γ := Γ)
  rw [e', hs, bind_ok, hi, ofo_some, bind_ok, e, bind_ok, wipe_back w]
  simp
theorem lcr_p {es : List CW.E} {as : List D} {p : Int × Nat} (f : D → Option D) (hs : evEs φ es Γ = .ok as Γ) (hr : rngD as = some p) (h : ∀ d ∈ rngL p.1 p.2, ∃ Γ', compT φ own tg c elt d Γ = .ok (f d) Γ' ∧ wipeE Γ' own = wipeE Γ own) :
    evE φ (.lcr own tg es c elt) Γ = .ok (.lst ((rngL p.1 p.2).filterMap f)) Γ := by
  obtain ⟨Γ2, e, w⟩ := comp_pure (f := f) (ds := rngL p.1 p.2) (acc := []) (Γ1 := wipeE Γ own) wipe_twice h
  have e' := r_lcr (φ := φ) (own := own) (tg := tg) (es := es) (c := c) (y := elt) (Γ := Γ)
  rw [e', hs, bind_ok, hr, ofo_some, bind_ok, e, bind_ok, wipe_back w]
  simp
theorem lce_p (f : D → Option D) (hs : evE φ src Γ = .ok x Γ) (hi : itemsOf false x = some ds) (h : ∀ d ∈ numD ds, ∃ Γ', compT φ own tg c elt d Γ = .ok (f d) Γ' ∧ wipeE Γ' own = wipeE Γ own) :
    evE φ (.lce own tg src c elt) Γ = .ok (.lst ((numD ds).filterMap f)) Γ := by
  obtain ⟨Γ2, e, w⟩ := comp_pure (f := f) (ds := numD ds) (acc := []) (Γ1 := wipeE Γ own) wipe_twice h
  have e' := r_lce (φ := φ) (own := own) (tg := tg) (e := src) (c := c) (y := elt) (Γ := Γ)
  rw [e', hs, bind_ok, hi, ofo_some, bind_ok, e, bind_ok, wipe_back w]
  simp
/-- the same, items told by values -/
theorem comp_b {α β : Type} (emb : α → D) (emb' : β → D) (g : α → β) (k : α → Bool) (Γb : α → CW.Env) : ∀ {l : List α} {acc : List D} {Γ1 : CW.Env}, wipeE Γ1 own = wipeE Γ own →
    (∀ a ∈ l, Tg.bind tg (emb a) (wipeE Γ own) = some (Γb a) ∧ wipeE (Γb a) own = wipeE Γ own ∧ evC φ c (Γb a) = .ok (k a) (Γb a) ∧ (k a = true → evE φ elt (Γb a) = .ok (emb' (g a)) (Γb a))) →
    ∃ Γ2, compL (compT φ own tg c elt) (l.map emb) acc Γ1 = .ok (acc.reverse ++ ((l.filter k).map g).map emb') Γ2 ∧ wipeE Γ2 own = wipeE Γ own
  | [], acc, Γ1, h1, _ => ⟨Γ1, by simp [compL], h1⟩
  | a :: l, acc, Γ1, h1, h => by
    obtain ⟨e1, w1, e2, e3⟩ := h a List.mem_cons_self
    have eT : compT φ own tg c elt (emb a) Γ1 = .ok (if k a then some (emb' (g a)) else none) (Γb a) := by
      rw [compT_wipe h1]
      unfold compT
      rw [e1, ofo_some, bind_ok, e2, bind_ok]
      cases hk : k a with
      | true => simp [e3 hk]
      | false => simp
    rw [List.map_cons, compL, eT, bind_ok]
    cases hk : k a with
    | true =>
      obtain ⟨Γ2, e4, w4⟩ := comp_b emb emb' g k Γb (l := l) (acc := emb' (g a) :: acc) w1 fun b hb => h b (List.mem_cons_of_mem _ hb)
      refine ⟨Γ2, ?_, w4⟩
      rw [List.filter_cons_of_pos hk]
      simp only [if_true]
      rw [e4]
      simp
    | false =>
      obtain ⟨Γ2, e4, w4⟩ := comp_b emb emb' g k Γb (l := l) (acc := acc) w1 fun b hb => h b (List.mem_cons_of_mem _ hb)
      refine ⟨Γ2, ?_, w4⟩
      rw [List.filter_cons_of_neg (by simp [hk])]
      simpa using e4
theorem lcl_b {α β : Type} (emb : α → D) (emb' : β → D) (g : α → β) (k : α → Bool) (Γb : α → CW.Env) {l : List α} (hs : evE φ src Γ = .ok x Γ) (hi : itemsOf tp x = some (l.map emb))
    (h : ∀ a ∈ l, Tg.bind tg (emb a) (wipeE Γ own) = some (Γb a) ∧ wipeE (Γb a) own = wipeE Γ own ∧ evC φ c (Γb a) = .ok (k a) (Γb a) ∧ (k a = true → evE φ elt (Γb a) = .ok (emb' (g a)) (Γb a))) :
    evE φ (.lcl tp own tg src c elt) Γ = .ok (.lst (((l.filter k).map g).map emb')) Γ := by
  obtain ⟨Γ2, e, w⟩ := comp_b (φ := φ) (own := own) (tg := tg) (c := c) (elt := elt) (Γ := Γ) emb emb' g k Γb (l := l) (acc := []) wipe_twice h
  have e' := r_lcl (φ := φ) (tp := tp) (own := own) (tg := tg) (e := src) (c := c) (y := elt) (Γ := Γ)
  rw [e', hs, bind_ok, hi, ofo_some, bind_ok, e, bind_ok, wipe_back w]
  simp
theorem lcl_map {α β : Type} (emb : α → D) (emb' : β → D) (g : α → β) (Γb : α → CW.Env) {l : List α} (hs : evE φ src Γ = .ok x Γ) (hi : itemsOf tp x = some (l.map emb))
    (h : ∀ a ∈ l, Tg.bind tg (emb a) (wipeE Γ own) = some (Γb a) ∧ wipeE (Γb a) own = wipeE Γ own ∧ evE φ elt (Γb a) = .ok (emb' (g a)) (Γb a)) :
    evE φ (.lcl tp own tg src none elt) Γ = .ok (.lst ((l.map g).map emb')) Γ := by
  have := lcl_b (φ := φ) (c := none) (elt := elt) emb emb' g (fun _ => true) Γb hs hi (fun a ha => ⟨(h a ha).1, (h a ha).2.1, by simp only [evC], fun _ => (h a ha).2.2⟩)
  rwa [List.filter_eq_self.mpr (fun _ _ => rfl)] at this
theorem lcl_flt {α : Type} (emb : α → D) (k : α → Bool) (Γb : α → CW.Env) {l : List α} (hs : evE φ src Γ = .ok x Γ) (hi : itemsOf tp x = some (l.map emb))
    (h : ∀ a ∈ l, Tg.bind tg (emb a) (wipeE Γ own) = some (Γb a) ∧ wipeE (Γb a) own = wipeE Γ own ∧ evC φ c (Γb a) = .ok (k a) (Γb a) ∧ evE φ elt (Γb a) = .ok (emb a) (Γb a)) :
    evE φ (.lcl tp own tg src c elt) Γ = .ok (.lst ((l.filter k).map emb)) Γ := by
  have := lcl_b (φ := φ) (c := c) (elt := elt) emb emb id k Γb hs hi (fun a ha => ⟨(h a ha).1, (h a ha).2.1, (h a ha).2.2.1, fun _ => (h a ha).2.2.2⟩)
  rwa [List.map_id] at this
theorem lcr_map {β : Type} {es : List CW.E} {as : List D} {n : Nat} {a0 : Int} (emb' : β → D) (g : Nat → β) (Γb : Nat → CW.Env) (hs : evEs φ es Γ = .ok as Γ) (hr : rngD as = some (a0, n))
    (h : ∀ i, i < n → Tg.bind tg (.int (a0 + i)) (wipeE Γ own) = some (Γb i) ∧ wipeE (Γb i) own = wipeE Γ own ∧ evE φ elt (Γb i) = .ok (emb' (g i)) (Γb i)) :
    evE φ (.lcr own tg es none elt) Γ = .ok (.lst (((List.range n).map g).map emb')) Γ := by
  obtain ⟨Γ2, e, w⟩ := comp_b (φ := φ) (own := own) (tg := tg) (c := none) (elt := elt) (Γ := Γ) (fun i : Nat => D.int (a0 + i)) emb' g (fun _ => true) Γb (l := List.range n) (acc := []) wipe_twice (fun a ha => ⟨(h a (List.mem_range.mp ha)).1, (h a (List.mem_range.mp ha)).2.1, by simp only [evC], fun _ => (h a (List.mem_range.mp ha)).2.2⟩)
  have e' := r_lcr (φ := φ) (own := own) (tg := tg) (es := es) (c := none) (y := elt) (Γ := Γ)
  rw [e', hs, bind_ok, hr, ofo_some, bind_ok]
  rw [List.filter_eq_self.mpr (fun _ _ => rfl)] at e
  have er : rngL a0 n = (List.range n).map fun i : Nat => D.int (a0 + i) := rfl
  simp only [er]
  rw [e, bind_ok, wipe_back w]
  simp
/-! new rules -/
variable {body : List S} {s : S} {y z : Nat}
@[simp] theorem r_form1 : evS φ (.form1 y z body) Γ = (match CW.get Γ z with
      | some (.lst ds) => formL (fun Γ => evSs φ body Γ) y z ds [] ((Γ.set y none).set z none)
      | _ => .bad) := by
  simp only [evS] <;> rfl
@[simp] theorem r_forz {a b : CW.E} : evS φ (.forz tg a b body) Γ = (evE φ a Γ).toS fun x Γ => (evE φ b Γ).toS fun y Γ => (R.ofo (zipK x y) Γ).toS fun ds Γ => forL (turnOf φ tg body) ds Γ := by
  simp only [evS] <;> rfl
@[simp] theorem r_borS {ys : List Nat} : evS φ (.borS ys s) Γ = (evS φ s Γ).wiped ys := by simp only [evS]
@[simp] theorem r_reK : evS φ (.reK y s) Γ = (evS φ s (Γ.set y none)).wiped [y] := by simp only [evS]
/-- lent items, told by values -/
theorem formL_map {α β : Type} {turn : CW.Env → SR} (emb : α → D) (emb' : β → D) (g : α → β) {Γs : Nat → CW.Env} : ∀ {l : List α} {k : Nat} {acc : List β}, (∀ i a, l[i]? = some a → ∃ Γ', turn (CW.put (Γs (k + i)) y (emb a)) = .nx Γ' ∧ CW.get Γ' y = some (emb' (g a)) ∧ Γ'.set y none = Γs (k + i + 1)) →
    formL turn y z (l.map emb) (acc.map emb') (Γs k) = .nx (CW.put (Γs (k + l.length)) z (.lst ((acc ++ l.map g).map emb')))
  | [], k, acc, _ => by simp [formL]
  | a :: l, k, acc, h => by
    obtain ⟨Γ', e, g1, g2⟩ := h 0 a rfl
    rw [Nat.add_zero] at e
    rw [List.map_cons, formL, e]
    simp only [g1]
    rw [g2]
    have := formL_map emb emb' g (Γs := Γs) (l := l) (k := k + 1) (acc := acc ++ [g a]) (fun i b hb => by
      have := h (i + 1) b (by simpa using hb)
      rw [show k + (i + 1) = k + 1 + i by omega] at this
      exact this)
    have e2 : acc.map emb' ++ [emb' (g a)] = (acc ++ [g a]).map emb' := by simp
    rw [e2, Nat.add_zero, this, List.length_cons, show k + 1 + l.length = k + (l.length + 1) by omega]
    simp
/-- a loop whose states are told turn by turn -/
theorem forL_st {turn : D → CW.Env → SR} (Γs : Nat → CW.Env) : ∀ {ds : List D} {k : Nat}, (∀ i d, ds[i]? = some d → turn d (Γs (k + i)) = .nx (Γs (k + i + 1))) → forL turn ds (Γs k) = .nx (Γs (k + ds.length))
  | [], k, _ => rfl
  | d :: ds, k, h => by
    have e := h 0 d rfl
    rw [Nat.add_zero] at e
    rw [forL, e]
    simp only
    have := forL_st Γs (ds := ds) (k := k + 1) (fun i d' hd => by
      have := h (i + 1) d' (by simpa using hd)
      rw [show k + (i + 1) = k + 1 + i by omega] at this
      exact this)
    rw [this, List.length_cons, show k + 1 + ds.length = k + (ds.length + 1) by omega]
end
end CWL
namespace CWL
open PySem L2 CW
noncomputable section
def top (i : Nat) : Stmt := PySem.Challenge.pw_climbways_k39_no_lands_to_turn.main.body.getD i (.Pass ⟨0, 0, 0, 0⟩)
abbrev s0 : Stmt := top 14
abbrev s1 : Stmt := top 15
abbrev s2 : Stmt := top 16
abbrev s3 : Stmt := top 17
abbrev s4 : Stmt := top 18
abbrev s5 : Stmt := top 19
abbrev s24 : Stmt := top 21
abbrev s37 : Stmt := top 22
abbrev s25 : Stmt := top 24
abbrev s26 : Stmt := top 25
abbrev s27 : Stmt := top 26
abbrev s28 : Stmt := top 27
abbrev s29 : Stmt := top 28
abbrev s30 : Stmt := top 29
abbrev s31 : Stmt := top 30
abbrev s32 : Stmt := top 31
abbrev s73 : Stmt := top 32
abbrev s74 : Stmt := top 33
abbrev s75 : Stmt := top 34
abbrev s76 : Stmt := top 35
/-- what the top has written -/
structure Txt (mg : Str → Option Value) : Prop where
  b_ValueError : mg "ValueError" = none
  b_abs : mg "abs" = none
  b_bool : mg "bool" = none
  b_enumerate : mg "enumerate" = none
  b_int : mg "int" = none
  b_isinstance : mg "isinstance" = none
  b_len : mg "len" = none
  b_list : mg "list" = none
  b_max : mg "max" = none
  b_min : mg "min" = none
  b_range : mg "range" = none
  b_repr : mg "repr" = none
  b_sorted : mg "sorted" = none
  b_tuple : mg "tuple" = none
  b_zip : mg "zip" = none
  c_FARTHEST : ∃ t, mg "FARTHEST" = some (.int 5 t)
  c_MOST_MOVES : ∃ t, mg "MOST_MOVES" = some (.int 8 t)
  c_MOST_WIDE : ∃ t, mg "MOST_WIDE" = some (.int 6 t)
/-- what the top has written of what is refused -/
structure TxE (K : PySem.W.Frag) (mg : Str → Option Value) (cl : Nat → Addr) : Prop where
  c0 : mg "ClimbError" = some (.ref (cl 0))
  x1 : ExcF K mg 1 (cl 1) (cl 0)
  q1 : AskF K mg 1 (cl 1)
  q2 : AskF K mg 2 (cl 2)
  q3 : AskF K mg 3 (cl 3)
  q4 : AskF K mg 4 (cl 4)
  q5 : AskF K mg 5 (cl 5)
  q6 : AskF K mg 6 (cl 6)
  q7 : AskF K mg 7 (cl 7)
  q8 : AskF K mg 8 (cl 8)
  w1_1 : PySem.W.kitOne K (.ref (cl 1)) (.ref (cl 1)) = some true
  w1_2 : PySem.W.kitOne K (.ref (cl 1)) (.ref (cl 2)) = some false
  w1_3 : PySem.W.kitOne K (.ref (cl 1)) (.ref (cl 3)) = some false
  w1_4 : PySem.W.kitOne K (.ref (cl 1)) (.ref (cl 4)) = some false
  w1_5 : PySem.W.kitOne K (.ref (cl 1)) (.ref (cl 5)) = some false
  w1_6 : PySem.W.kitOne K (.ref (cl 1)) (.ref (cl 6)) = some false
  w1_7 : PySem.W.kitOne K (.ref (cl 1)) (.ref (cl 7)) = some false
  w1_8 : PySem.W.kitOne K (.ref (cl 1)) (.ref (cl 8)) = some false
  v1 : PySem.W.kitOne K (.ref (cl 1)) (.type "ValueError") = some true
section
variable {P : Program} {w : World} {K : PySem.W.Frag} {mg : Str → Option Value} {base : Heap} {cl : Nat → Addr}
/-! is_whole: 0 thing -/
def i0 : List S := [.ret (.and (.bi .isInt [.var 0]) (.not (.bi .isBool [.var 0])))]
def h0 : FEnv := ⟨fun n => match n with  | _ => fun _ => .bad, 1000⟩
def g0 (ds : List D) : RF := den h0 [.sh] 1 i0 ds
theorem c0 {f : Addr} {fd : FuncData} (F : Fun K "is_whole" "is_whole" s0 f fd) (hm : mg "is_whole" = some (.ref f)) (T : Txt mg) (TE : TxE K mg cl)  : Cal P w K mg base cl 1 "is_whole" ⟨[.sh], .im⟩ g0 := by
  refine ⟨f, fd, ["thing"], ok_fn (x := "is_whole") (qual := "is_whole") (N := ["thing"]) (ks := [.sh]) (ir := i0) (φ := h0) (lv := 0) F ⟨rfl, rfl, rfl, by decide +kernel, rfl, by decide +kernel, by decide +kernel⟩ rfl rfl rfl (fun _ => rfl) (.inl rfl) (fun cdv A outer s H E hr tk px nd hu gd => ?_), hm, F.kp, F.binds (ps := ["thing"]) fun _ _ _ _ _ _ us hl => match us, hl with | [_], _ => rfl⟩
  exact ⟨_, _, (ss_cons (y_ret (snd_and (y_isi .isInt T.b_isinstance T.b_int (y_v 0)) (snd_one (snd_not (y_isi .isBool T.b_isinstance T.b_bool (y_v 0))))))
      ss_nil), rfl⟩
/-! is_table: 0 thing, 1 row, 2 number -/
def i1 : List S := [.ite (.or (.not (.bi .isList [.var 0])) (.not (.chain .le .le (.cn (.int 1)) (.bi .len [.var 0]) (.cn (.int 6))))) [.ret (.cn (.bl false))] [], .forl false (.nm 1 false) (.var 0) [.ite (.or (.not (.bi .isList [.var 1])) (.or (.not (.chain .le .le (.cn (.int 1)) (.bi .len [.var 1]) (.cn (.int 6)))) (.cmp .ne (.bi .len [.var 1]) (.bi .len [.ix (.var 0) (.cn (.int 0))])))) [.ret (.cn (.bl false))] [], .ite (.cmp .ne (.lcl false [2] (.nm 2 false) (.var 1) (some (.not (.call 0 [.var 2] []))) (.var 2)) (.lst [])) [.ret (.cn (.bl false))] []], .ret (.cn (.bl true))]
def h1 : FEnv := ⟨fun n => match n with | 0 => g0 | _ => fun _ => .bad, 1000⟩
def g1 (ds : List D) : RF := den h1 [.sh] 3 i1 ds
theorem c1 {f : Addr} {fd : FuncData} (F : Fun K "is_table" "is_table" s1 f fd) (hm : mg "is_table" = some (.ref f)) (T : Txt mg) (TE : TxE K mg cl) (d0 : Cal P w K mg base cl 1 "is_whole" ⟨[.sh], .im⟩ g0) : Cal P w K mg base cl 2 "is_table" ⟨[.sh], .im⟩ g1 := by
  refine ⟨f, fd, ["thing"], ok_fn (x := "is_table") (qual := "is_table") (N := ["thing", "row", "number"]) (ks := [.sh, .sh, .sh]) (ir := i1) (φ := h1) (lv := 1) F ⟨rfl, rfl, rfl, by decide +kernel, rfl, by decide +kernel, by decide +kernel⟩ rfl rfl rfl (fun _ => rfl) (.inl rfl) (fun cdv A outer s H E hr tk px nd hu gd => ?_), hm, F.kp, F.binds (ps := ["thing"]) fun _ _ _ _ _ _ us hl => match us, hl with | [_], _ => rfl⟩
  exact ⟨_, _, (ss_cons (snd_ite (SndW.toT (sw_or (st_not (y_T (y_isi .isList T.b_isinstance T.b_list (y_v 0)))) (sw_or1 (st_not (y_chainT hu .le .le snd_int (y_bi .len T.b_len (y_a (y_v 0) sa_nil)) (y_g T.c_MOST_WIDE)))))) (ss_cons (y_ret snd_bl)
      ss_nil) ss_nil)
      (ss_cons (y_forl px (y_v 0) (y_gn nd 1 false) (ss_cons (snd_ite (SndW.toT (sw_or (st_not (y_T (y_isi .isList T.b_isinstance T.b_list (y_v 1)))) (sw_or (st_not (y_chainT hu .le .le snd_int (y_bi .len T.b_len (y_a (y_v 1) sa_nil)) (y_g T.c_MOST_WIDE))) (sw_or1 (y_cmpT hu .ne (y_bi .len T.b_len (y_a (y_v 1) sa_nil)) (y_bi .len T.b_len (y_a (y_ix (y_v 0) snd_int) sa_nil))))))) (ss_cons (y_ret snd_bl)
      ss_nil) ss_nil)
      (ss_cons (snd_ite (y_cmpT hu .ne (SndLC.toE (y_lcl .sh .sh [("number", 2)] nd (y_v 1) (fun _ _ _ _ _ => (y_gn nd 2 false)) (fun _ _ _ _ _ => td_some (SndT.canon (st_not (y_T (y_call 0 d0 gd (hr.mono (by decide)) passNo (y_c (y_v 2) sc_nil)))))) (fun _ _ _ _ _ => (y_v 2)))) (y_lst .sh y_d0)) (ss_cons (y_ret snd_bl)
      ss_nil) ss_nil)
      ss_nil)))
      (ss_cons (y_ret snd_bl)
      ss_nil))), rfl⟩
/-! is_move: 0 thing -/
def i2 : List S := [.ite (.or (.not (.bi .isTup [.var 0])) (.or (.cmp .ne (.bi .len [.var 0]) (.cn (.int 2))) (.or (.not (.call 0 [.ix (.var 0) (.cn (.int 0))] [])) (.not (.call 0 [.ix (.var 0) (.cn (.int 1))] []))))) [.ret (.cn (.bl false))] [], .ret (.and (.cmp .le (.bi .abs [.ix (.var 0) (.cn (.int 0))]) (.cn (.int 5))) (.and (.cmp .le (.bi .abs [.ix (.var 0) (.cn (.int 1))]) (.cn (.int 5))) (.cmp .ne (.var 0) (.tup [.cn (.int 0), .cn (.int 0)]))))]
def h2 : FEnv := ⟨fun n => match n with | 0 => g0 | _ => fun _ => .bad, 1000⟩
def g2 (ds : List D) : RF := den h2 [.sh] 1 i2 ds
theorem c2 {f : Addr} {fd : FuncData} (F : Fun K "is_move" "is_move" s2 f fd) (hm : mg "is_move" = some (.ref f)) (T : Txt mg) (TE : TxE K mg cl) (d0 : Cal P w K mg base cl 1 "is_whole" ⟨[.sh], .im⟩ g0) : Cal P w K mg base cl 2 "is_move" ⟨[.sh], .im⟩ g2 := by
  refine ⟨f, fd, ["thing"], ok_fn (x := "is_move") (qual := "is_move") (N := ["thing"]) (ks := [.sh]) (ir := i2) (φ := h2) (lv := 1) F ⟨rfl, rfl, rfl, by decide +kernel, rfl, by decide +kernel, by decide +kernel⟩ rfl rfl rfl (fun _ => rfl) (.inl rfl) (fun cdv A outer s H E hr tk px nd hu gd => ?_), hm, F.kp, F.binds (ps := ["thing"]) fun _ _ _ _ _ _ us hl => match us, hl with | [_], _ => rfl⟩
  exact ⟨_, _, (ss_cons (snd_ite (SndW.toT (sw_or (st_not (y_T (y_isi .isTup T.b_isinstance T.b_tuple (y_v 0)))) (sw_or (y_cmpT hu .ne (y_bi .len T.b_len (y_a (y_v 0) sa_nil)) snd_int) (sw_or (st_not (y_T (y_call 0 d0 gd (hr.mono (by decide)) (passAt tk) (y_c (y_ix (y_v 0) snd_int) sc_nil)))) (sw_or1 (st_not (y_T (y_call 0 d0 gd (hr.mono (by decide)) (passAt tk) (y_c (y_ix (y_v 0) snd_int) sc_nil))))))))) (ss_cons (y_ret snd_bl)
      ss_nil) ss_nil)
      (ss_cons (y_ret (snd_and (y_cmp hu .le (y_bi .abs T.b_abs (y_a (y_ix (y_v 0) snd_int) sa_nil)) (y_g T.c_FARTHEST)) (snd_and (y_cmp hu .le (y_bi .abs T.b_abs (y_a (y_ix (y_v 0) snd_int) sa_nil)) (y_g T.c_FARTHEST)) (snd_one (y_cmp hu .ne (y_v 0) (y_tup .sh (y_d snd_int (y_d snd_int y_d0))))))))
      ss_nil)), rfl⟩
/-! are_moves: 0 thing, 1 move, 2 k -/
def i3 : List S := [.ite (.or (.not (.bi .isList [.var 0])) (.cmp .gt (.bi .len [.var 0]) (.cn (.int 8)))) [.ret (.cn (.bl false))] [], .ite (.cmp .ne (.lcl false [1] (.nm 1 false) (.var 0) (some (.not (.call 2 [.var 1] []))) (.var 1)) (.lst [])) [.ret (.cn (.bl false))] [], .ret (.cmp .eq (.lcr [2] (.nm 2 false) [.cn (.int 1), .bi .len [.var 0]] (some (.cmp .ge (.ix (.var 0) (.bin .sub (.var 2) (.cn (.int 1)))) (.ix (.var 0) (.var 2)))) (.var 2)) (.lst []))]
def h3 : FEnv := ⟨fun n => match n with | 2 => g2 | _ => fun _ => .bad, 1000⟩
def g3 (ds : List D) : RF := den h3 [.sh] 3 i3 ds
theorem c3 {f : Addr} {fd : FuncData} (F : Fun K "are_moves" "are_moves" s3 f fd) (hm : mg "are_moves" = some (.ref f)) (T : Txt mg) (TE : TxE K mg cl) (d2 : Cal P w K mg base cl 2 "is_move" ⟨[.sh], .im⟩ g2) : Cal P w K mg base cl 3 "are_moves" ⟨[.sh], .im⟩ g3 := by
  refine ⟨f, fd, ["thing"], ok_fn (x := "are_moves") (qual := "are_moves") (N := ["thing", "move", "k"]) (ks := [.sh, .sh, .im]) (ir := i3) (φ := h3) (lv := 2) F ⟨rfl, rfl, rfl, by decide +kernel, rfl, by decide +kernel, by decide +kernel⟩ rfl rfl rfl (fun _ => rfl) (.inl rfl) (fun cdv A outer s H E hr tk px nd hu gd => ?_), hm, F.kp, F.binds (ps := ["thing"]) fun _ _ _ _ _ _ us hl => match us, hl with | [_], _ => rfl⟩
  exact ⟨_, _, (ss_cons (snd_ite (SndW.toT (sw_or (st_not (y_T (y_isi .isList T.b_isinstance T.b_list (y_v 0)))) (sw_or1 (y_cmpT hu .gt (y_bi .len T.b_len (y_a (y_v 0) sa_nil)) (y_g T.c_MOST_MOVES))))) (ss_cons (y_ret snd_bl)
      ss_nil) ss_nil)
      (ss_cons (snd_ite (y_cmpT hu .ne (SndLC.toE (y_lcl .sh .sh [("move", 1)] nd (y_v 0) (fun _ _ _ _ _ => (y_gn nd 1 false)) (fun _ _ _ _ _ => td_some (SndT.canon (st_not (y_T (y_call 2 d2 gd (hr.mono (by decide)) passNo (y_c (y_v 1) sc_nil)))))) (fun _ _ _ _ _ => (y_v 1)))) (y_lst .sh y_d0)) (ss_cons (y_ret snd_bl)
      ss_nil) ss_nil)
      (ss_cons (y_ret (y_cmp hu .eq (SndLC.toE (y_lcr .sh .sh [("k", 2)] nd (y_r2 T.b_range (y_a snd_int (y_a (y_bi .len T.b_len (y_a (y_v 0) sa_nil)) sa_nil))) (fun _ _ _ _ _ => (y_gn nd 2 false)) (fun _ _ _ _ _ => td_some (SndT.canon (y_cmpT hu .ge (y_ix (y_v 0) (y_bin .sub (y_v 2) snd_int)) (y_ix (y_v 0) (y_v 2))))) (fun _ _ _ _ _ => (y_v 2)))) (y_lst .sh y_d0)))
      ss_nil))), rfl⟩
/-! is_land: 0 thing, 1 move -/
def i4 : List S := [.ite (.or (.not (.bi .isTup [.var 0])) (.cmp .ne (.bi .len [.var 0]) (.cn (.int 3)))) [.ret (.cn (.bl false))] [], .ite (.or (.not (.call 1 [.ix (.var 0) (.cn (.int 0))] [])) (.or (.not (.call 3 [.ix (.var 0) (.cn (.int 1))] [])) (.not (.call 3 [.ix (.var 0) (.cn (.int 2))] [])))) [.ret (.cn (.bl false))] [], .ret (.cmp .eq (.lcl false [1] (.nm 1 false) (.ix (.var 0) (.cn (.int 1))) (some (.cmp .isin (.var 1) (.ix (.var 0) (.cn (.int 2))))) (.var 1)) (.lst []))]
def h4 : FEnv := ⟨fun n => match n with | 1 => g1 | 3 => g3 | _ => fun _ => .bad, 1000⟩
def g4 (ds : List D) : RF := den h4 [.sh] 2 i4 ds
theorem c4 {f : Addr} {fd : FuncData} (F : Fun K "is_land" "is_land" s4 f fd) (hm : mg "is_land" = some (.ref f)) (T : Txt mg) (TE : TxE K mg cl) (d1 : Cal P w K mg base cl 2 "is_table" ⟨[.sh], .im⟩ g1) (d3 : Cal P w K mg base cl 3 "are_moves" ⟨[.sh], .im⟩ g3) : Cal P w K mg base cl 4 "is_land" ⟨[.sh], .im⟩ g4 := by
  refine ⟨f, fd, ["thing"], ok_fn (x := "is_land") (qual := "is_land") (N := ["thing", "move"]) (ks := [.sh, .sh]) (ir := i4) (φ := h4) (lv := 3) F ⟨rfl, rfl, rfl, by decide +kernel, rfl, by decide +kernel, by decide +kernel⟩ rfl rfl rfl (fun _ => rfl) (.inl rfl) (fun cdv A outer s H E hr tk px nd hu gd => ?_), hm, F.kp, F.binds (ps := ["thing"]) fun _ _ _ _ _ _ us hl => match us, hl with | [_], _ => rfl⟩
  exact ⟨_, _, (ss_cons (snd_ite (SndW.toT (sw_or (st_not (y_T (y_isi .isTup T.b_isinstance T.b_tuple (y_v 0)))) (sw_or1 (y_cmpT hu .ne (y_bi .len T.b_len (y_a (y_v 0) sa_nil)) snd_int)))) (ss_cons (y_ret snd_bl)
      ss_nil) ss_nil)
      (ss_cons (snd_ite (SndW.toT (sw_or (st_not (y_T (y_call 1 d1 gd (hr.mono (by decide)) (passAt tk) (y_c (y_ix (y_v 0) snd_int) sc_nil)))) (sw_or (st_not (y_T (y_call 3 d3 gd (hr.mono (by decide)) (passAt tk) (y_c (y_ix (y_v 0) snd_int) sc_nil)))) (sw_or1 (st_not (y_T (y_call 3 d3 gd (hr.mono (by decide)) (passAt tk) (y_c (y_ix (y_v 0) snd_int) sc_nil)))))))) (ss_cons (y_ret snd_bl)
      ss_nil) ss_nil)
      (ss_cons (y_ret (y_cmp hu .eq (SndLC.toE (y_lcl .sh .sh [("move", 1)] nd (y_ix (y_v 0) snd_int) (fun _ _ _ _ _ => (y_gn nd 1 false)) (fun _ _ _ _ _ => td_some (SndT.canon (y_cmpT hu .isin (y_v 1) (y_ix (y_v 0) snd_int)))) (fun _ _ _ _ _ => (y_v 1)))) (y_lst .sh y_d0)))
      ss_nil))), rfl⟩
/-! need_land: 0 thing -/
def i5 : List S := [.ite (.not (.call 4 [.var 0] [])) [.raise 1] []]
def h5 : FEnv := ⟨fun n => match n with | 4 => g4 | _ => fun _ => .bad, 1000⟩
def g5 (ds : List D) : RF := den h5 [.sh] 1 i5 ds
theorem c5 {f : Addr} {fd : FuncData} (F : Fun K "need_land" "need_land" s5 f fd) (hm : mg "need_land" = some (.ref f)) (T : Txt mg) (TE : TxE K mg cl) (d4 : Cal P w K mg base cl 4 "is_land" ⟨[.sh], .im⟩ g4) : Cal P w K mg base cl 5 "need_land" ⟨[.sh], .im⟩ g5 := by
  refine ⟨f, fd, ["thing"], ok_fn (x := "need_land") (qual := "need_land") (N := ["thing"]) (ks := [.sh]) (ir := i5) (φ := h5) (lv := 4) F ⟨rfl, rfl, rfl, by decide +kernel, rfl, by decide +kernel, by decide +kernel⟩ rfl rfl rfl (fun _ => rfl) (.inl rfl) (fun cdv A outer s H E hr tk px nd hu gd => ?_), hm, F.kp, F.binds (ps := ["thing"]) fun _ _ _ _ _ _ us hl => match us, hl with | [_], _ => rfl⟩
  exact ⟨_, _, (ss_cons (snd_ite (st_not (y_T (y_call 4 d4 gd (hr.mono (by decide)) (passAt tk) (y_c (y_v 0) sc_nil)))) (ss_cons (y_raise TE.x1 tk)
      ss_nil) ss_nil)
      ss_nil), rfl⟩
/-! turned_about: 0 land, 1 back, 2 table, 3 steps, 4 jumps, 5 moves, 6 row, 7 number, 8 down, 9 right -/
def i24 : List S := [.ex (.call 5 [.var 0] []), .asgT [.nm 2 false, .nm 3 false, .nm 4 false] (.var 0), .asg 1 (.lcl true [5] (.nm 5 false) (.tup [.var 3, .var 4]) none (.mk .sorted true (.lcl false [8, 9] (.tup [.nm 8 false, .nm 9 false]) (.var 5) none (.tup [.bin .sub (.cn (.int 0)) (.var 8), .bin .sub (.cn (.int 0)) (.var 9)])))), .ret (.tupI [.lcl false [6] (.nm 6 false) (.var 2) none (.lcl false [7] (.nm 7 false) (.var 6) none (.bin .sub (.cn (.int 0)) (.var 7)))] 1)]
def h24 : FEnv := ⟨fun n => match n with | 5 => g5 | _ => fun _ => .bad, 1000⟩
def g24 (ds : List D) : RF := den h24 [.sh] 10 i24 ds
theorem c24 {f : Addr} {fd : FuncData} (F : Fun K "turned_about" "turned_about" s24 f fd) (hm : mg "turned_about" = some (.ref f)) (T : Txt mg) (TE : TxE K mg cl) (d5 : Cal P w K mg base cl 5 "need_land" ⟨[.sh], .im⟩ g5) : Cal P w K mg base cl 6 "turned_about" ⟨[.sh], .ow⟩ g24 := by
  refine ⟨f, fd, ["land"], ok_fn (x := "turned_about") (qual := "turned_about") (N := ["land", "back", "table", "steps", "jumps", "moves", "row", "number", "down", "right"]) (ks := [.sh, .ow, .sh, .sh, .sh, .sh, .sh, .sh, .sh, .sh]) (ir := i24) (φ := h24) (lv := 5) F ⟨rfl, rfl, rfl, by decide +kernel, rfl, by decide +kernel, by decide +kernel⟩ rfl rfl rfl (fun _ => rfl) (.inl rfl) (fun cdv A outer s H E hr tk px nd hu gd => ?_), hm, F.kp, F.binds (ps := ["land"]) fun _ _ _ _ _ _ us hl => match us, hl with | [_], _ => rfl⟩
  exact ⟨_, _, (ss_cons (y_ex (y_call 5 d5 gd (hr.mono (by decide)) (passAt tk) (y_c (y_v 0) sc_nil)))
      (ss_cons (y_asgT (y_v 0) (y_gt (y_gs (y_gn nd 2 false) (y_gs (y_gn nd 3 false) (y_gs (y_gn nd 4 false) sgs_nil)))))
      (ss_cons (y_asgL nd 1 (y_lct .ow .ow [("moves", 5)] nd (y_tup .sh (y_d (y_v 3) (y_d (y_v 4) y_d0))) (fun _ _ _ _ _ => (y_gn nd 5 false)) (fun _ _ _ _ _ => td_none (ec := [])) (fun _ _ _ _ _ => (y_sorted .ow true T.b_sorted (SndLC.toE (y_lcl .sh .sh [("down", 8), ("right", 9)] nd (y_v 5) (fun _ _ _ _ _ => (y_gt (y_gs (y_gn nd 8 false) (y_gs (y_gn nd 9 false) sgs_nil)))) (fun _ _ _ _ _ => td_none (ec := [])) (fun _ _ _ _ _ => (y_tup .sh (y_d (y_bin .sub snd_int (y_v 8)) (y_d (y_bin .sub snd_int (y_v 9)) y_d0))))))))))
      (ss_cons (y_ret (y_tupI (y_ic (SndLC.toE (y_lcl .ow .ow [("row", 6)] nd (y_v 2) (fun _ _ _ _ _ => (y_gn nd 6 false)) (fun _ _ _ _ _ => td_none (ec := [])) (fun _ _ _ _ _ => (SndLC.toE (y_lcl .ow .ow [("number", 7)] nd (y_v 6) (fun _ _ _ _ _ => (y_gn nd 7 false)) (fun _ _ _ _ _ => td_none (ec := [])) (fun _ _ _ _ _ => (y_bin .sub snd_int (y_v 7)))))))) (y_i2 1))))
      ss_nil)))), rfl⟩
/-! laid_over: 0 land, 1 over, 2 table, 3 steps, 4 jumps, 5 moves, 6 place, 7 row, 8 down, 9 right -/
def i37 : List S := [.ex (.call 5 [.var 0] []), .asgT [.nm 2 false, .nm 3 false, .nm 4 false] (.var 0), .asg 1 (.lcl true [5] (.nm 5 false) (.tup [.var 3, .var 4]) none (.mk .sorted true (.lcl false [8, 9] (.tup [.nm 8 false, .nm 9 false]) (.var 5) none (.tup [.var 9, .var 8])))), .ret (.tupI [.lcr [6] (.nm 6 false) [.bi .len [.ix (.var 2) (.cn (.int 0))]] none (.lcl false [7] (.nm 7 false) (.var 2) none (.chk (.ix (.var 7) (.var 6))))] 1)]
def h37 : FEnv := ⟨fun n => match n with | 5 => g5 | _ => fun _ => .bad, 1000⟩
def g37 (ds : List D) : RF := den h37 [.sh] 10 i37 ds
theorem c37 {f : Addr} {fd : FuncData} (F : Fun K "laid_over" "laid_over" s37 f fd) (hm : mg "laid_over" = some (.ref f)) (T : Txt mg) (TE : TxE K mg cl) (d5 : Cal P w K mg base cl 5 "need_land" ⟨[.sh], .im⟩ g5) : Cal P w K mg base cl 6 "laid_over" ⟨[.sh], .ow⟩ g37 := by
  refine ⟨f, fd, ["land"], ok_fn (x := "laid_over") (qual := "laid_over") (N := ["land", "over", "table", "steps", "jumps", "moves", "place", "row", "down", "right"]) (ks := [.sh, .ow, .sh, .sh, .sh, .sh, .im, .sh, .sh, .sh]) (ir := i37) (φ := h37) (lv := 5) F ⟨rfl, rfl, rfl, by decide +kernel, rfl, by decide +kernel, by decide +kernel⟩ rfl rfl rfl (fun _ => rfl) (.inl rfl) (fun cdv A outer s H E hr tk px nd hu gd => ?_), hm, F.kp, F.binds (ps := ["land"]) fun _ _ _ _ _ _ us hl => match us, hl with | [_], _ => rfl⟩
  exact ⟨_, _, (ss_cons (y_ex (y_call 5 d5 gd (hr.mono (by decide)) (passAt tk) (y_c (y_v 0) sc_nil)))
      (ss_cons (y_asgT (y_v 0) (y_gt (y_gs (y_gn nd 2 false) (y_gs (y_gn nd 3 false) (y_gs (y_gn nd 4 false) sgs_nil)))))
      (ss_cons (y_asgL nd 1 (y_lct .ow .ow [("moves", 5)] nd (y_tup .sh (y_d (y_v 3) (y_d (y_v 4) y_d0))) (fun _ _ _ _ _ => (y_gn nd 5 false)) (fun _ _ _ _ _ => td_none (ec := [])) (fun _ _ _ _ _ => (y_sorted .ow true T.b_sorted (SndLC.toE (y_lcl .sh .sh [("down", 8), ("right", 9)] nd (y_v 5) (fun _ _ _ _ _ => (y_gt (y_gs (y_gn nd 8 false) (y_gs (y_gn nd 9 false) sgs_nil)))) (fun _ _ _ _ _ => td_none (ec := [])) (fun _ _ _ _ _ => (y_tup .sh (y_d (y_v 9) (y_d (y_v 8) y_d0))))))))))
      (ss_cons (y_ret (y_tupI (y_ic (SndLC.toE (y_lcr .ow .ow [("place", 6)] nd (y_r1 T.b_range (y_a (y_bi .len T.b_len (y_a (y_ix (y_v 2) snd_int) sa_nil)) sa_nil)) (fun _ _ _ _ _ => (y_gn nd 6 false)) (fun _ _ _ _ _ => td_none (ec := [])) (fun _ _ _ _ _ => (SndLC.toE (y_lcl .ow .ow [("row", 7)] nd (y_v 2) (fun _ _ _ _ _ => (y_gn nd 7 false)) (fun _ _ _ _ _ => td_none (ec := [])) (fun _ _ _ _ _ => (snd_chk (y_ix (y_v 7) (y_v 6))))))))) (y_i2 1))))
      ss_nil)))), rfl⟩
/-! _law_cell: 0 script, 1 k -/
def i25 : List S := [.ite (.cmp .lt (.var 1) (.bi .len [.var 0])) [.ret (.chk (.ix (.var 0) (.var 1)))] [], .ret (.bin .add (.bin .add (.bin .mul (.bin .mul (.cn (.int 7)) (.var 1)) (.var 1)) (.bin .mul (.cn (.int 3)) (.var 1))) (.cn (.int 11)))]
def h25 : FEnv := ⟨fun n => match n with  | _ => fun _ => .bad, 1000⟩
def g25 (ds : List D) : RF := den h25 [.sh, .sh] 2 i25 ds
theorem c25 {f : Addr} {fd : FuncData} (F : Fun K "_law_cell" "_law_cell" s25 f fd) (hm : mg "_law_cell" = some (.ref f)) (T : Txt mg) (TE : TxE K mg cl)  : Cal P w K mg base cl 1 "_law_cell" ⟨[.sh, .sh], .im⟩ g25 := by
  refine ⟨f, fd, ["script", "k"], ok_fn (x := "_law_cell") (qual := "_law_cell") (N := ["script", "k"]) (ks := [.sh, .sh]) (ir := i25) (φ := h25) (lv := 0) F ⟨rfl, rfl, rfl, by decide +kernel, rfl, by decide +kernel, by decide +kernel⟩ rfl rfl rfl (fun _ => rfl) (.inl rfl) (fun cdv A outer s H E hr tk px nd hu gd => ?_), hm, F.kp, F.binds (ps := ["script", "k"]) fun _ _ _ _ _ _ us hl => match us, hl with | [_, _], _ => rfl⟩
  exact ⟨_, _, (ss_cons (snd_ite (y_cmpT hu .lt (y_v 1) (y_bi .len T.b_len (y_a (y_v 0) sa_nil))) (ss_cons (y_ret (snd_chk (y_ix (y_v 0) (y_v 1))))
      ss_nil) ss_nil)
      (ss_cons (y_ret (y_bin .add (y_bin .add (y_bin .mul (y_bin .mul snd_int (y_v 1)) (y_v 1)) (y_bin .mul snd_int (y_v 1))) snd_int))
      ss_nil)), rfl⟩
/-! _law_store: 0 cell, 1 great -/
def i26 : List S := [.asg 1 (.cn (.int 0)), .ite (.cmp .ge (.var 0) (.bin .pow (.cn (.int 10)) (.cn (.int 18)))) [.asg 1 (.chk (.var 0))] [], .ret (.lst [.var 1, .bin .mod (.var 0) (.cn (.int 2147483629)), .cn (.int 1)])]
def h26 : FEnv := ⟨fun n => match n with  | _ => fun _ => .bad, 1000⟩
def g26 (ds : List D) : RF := den h26 [.sh] 2 i26 ds
theorem c26 {f : Addr} {fd : FuncData} (F : Fun K "_law_store" "_law_store" s26 f fd) (hm : mg "_law_store" = some (.ref f)) (T : Txt mg) (TE : TxE K mg cl)  : Cal P w K mg base cl 1 "_law_store" ⟨[.sh], .ow⟩ g26 := by
  refine ⟨f, fd, ["cell"], ok_fn (x := "_law_store") (qual := "_law_store") (N := ["cell", "great"]) (ks := [.sh, .im]) (ir := i26) (φ := h26) (lv := 0) F ⟨rfl, rfl, rfl, by decide +kernel, rfl, by decide +kernel, by decide +kernel⟩ rfl rfl rfl (fun _ => rfl) (.inl rfl) (fun cdv A outer s H E hr tk px nd hu gd => ?_), hm, F.kp, F.binds (ps := ["cell"]) fun _ _ _ _ _ _ us hl => match us, hl with | [_], _ => rfl⟩
  exact ⟨_, _, (ss_cons (y_asg nd 1 snd_int)
      (ss_cons (snd_ite (y_cmpT hu .ge (y_v 0) (y_bin .pow snd_int snd_int)) (ss_cons (y_asg nd 1 (snd_chk (y_v 0)))
      ss_nil) ss_nil)
      (ss_cons (y_ret (y_lst .ow (y_d (y_v 1) (y_d (y_bin .mod (y_v 0) snd_int) (y_d snd_int y_d0)))))
      ss_nil))), rfl⟩
/-! _law_take: 0 store, 1 many, 2 one, 3 told -/
def i27 : List S := [.ite (.cmp .gt (.ix (.var 0) (.cn (.int 0))) (.cn (.int 0))) [.asg 3 (.bin .mod (.ix (.var 0) (.cn (.int 0))) (.var 1)), .setp 0 [] (.cn (.int 0)) (.bin .fdiv (.ix (.var 0) (.cn (.int 0))) (.var 1)), .ret (.var 3)] [], .setp 0 [] (.cn (.int 2)) (.bin .add (.ix (.var 0) (.cn (.int 2))) (.cn (.int 1))), .asg 2 (.bin .mod (.bin .mul (.bin .add (.ix (.var 0) (.cn (.int 1))) (.bin .mul (.cn (.int 7919)) (.ix (.var 0) (.cn (.int 2))))) (.cn (.int 48271))) (.cn (.int 2147483647))), .asg 2 (.bin .mod (.bin .mul (.var 2) (.var 2)) (.cn (.int 2147483629))), .asg 2 (.bin .mod (.bin .mul (.bin .add (.var 2) (.bin .mul (.cn (.int 40692)) (.ix (.var 0) (.cn (.int 2))))) (.cn (.int 69621))) (.cn (.int 2147483587))), .ret (.bin .mod (.bin .fdiv (.var 2) (.cn (.int 8))) (.var 1))]
def h27 : FEnv := ⟨fun n => match n with  | _ => fun _ => .bad, 1000⟩
def g27 (ds : List D) : RF := den h27 [.ow, .sh] 4 i27 ds
theorem c27 {f : Addr} {fd : FuncData} (F : Fun K "_law_take" "_law_take" s27 f fd) (hm : mg "_law_take" = some (.ref f)) (T : Txt mg) (TE : TxE K mg cl)  : Cal P w K mg base cl 1 "_law_take" ⟨[.ow, .sh], .im⟩ g27 := by
  refine ⟨f, fd, ["store", "many"], ok_fn (x := "_law_take") (qual := "_law_take") (N := ["store", "many", "one", "told"]) (ks := [.ow, .sh, .im, .im]) (ir := i27) (φ := h27) (lv := 0) F ⟨rfl, rfl, rfl, by decide +kernel, rfl, by decide +kernel, by decide +kernel⟩ rfl rfl rfl (fun _ => rfl) (.inl rfl) (fun cdv A outer s H E hr tk px nd hu gd => ?_), hm, F.kp, F.binds (ps := ["store", "many"]) fun _ _ _ _ _ _ us hl => match us, hl with | [_, _], _ => rfl⟩
  exact ⟨_, _, (ss_cons (snd_ite (y_cmpT hu .gt (y_ix (y_v 0) snd_int) snd_int) (ss_cons (y_asg nd 3 (y_bin .mod (y_ix (y_v 0) snd_int) (y_v 1)))
      (ss_cons (y_setp (path := []) 0 (y_bin .fdiv (y_ix (y_v 0) snd_int) (y_v 1)) (y_p0 0) snd_int)
      (ss_cons (y_ret (y_v 3))
      ss_nil))) ss_nil)
      (ss_cons (y_setp (path := []) 0 (y_bin .add (y_ix (y_v 0) snd_int) snd_int) (y_p0 0) snd_int)
      (ss_cons (y_asg nd 2 (y_bin .mod (y_bin .mul (y_bin .add (y_ix (y_v 0) snd_int) (y_bin .mul snd_int (y_ix (y_v 0) snd_int))) snd_int) snd_int))
      (ss_cons (y_asg nd 2 (y_bin .mod (y_bin .mul (y_v 2) (y_v 2)) snd_int))
      (ss_cons (y_asg nd 2 (y_bin .mod (y_bin .mul (y_bin .add (y_v 2) (y_bin .mul snd_int (y_ix (y_v 0) snd_int))) snd_int) snd_int))
      (ss_cons (y_ret (y_bin .mod (y_bin .fdiv (y_v 2) snd_int) (y_v 1)))
      ss_nil)))))), rfl⟩
/-! _law_moves: 0 store, 1 most, 2 near, 3 found, 4 k, 5 one -/
def i28 : List S := [.asg 2 (.lst [.tup [.cn (.int 0), .cn (.int 1)], .tup [.cn (.int 0), .neg (.cn (.int 1))], .tup [.cn (.int 1), .cn (.int 0)], .tup [.neg (.cn (.int 1)), .cn (.int 0)], .tup [.cn (.int 1), .cn (.int 1)], .tup [.neg (.cn (.int 1)), .neg (.cn (.int 1))], .tup [.cn (.int 1), .neg (.cn (.int 1))], .tup [.neg (.cn (.int 1)), .cn (.int 1)]]), .asg 3 (.dnew), .forr (.nm 4 false) [.call 27 [.var 0, .bin .add (.var 1) (.cn (.int 1))] [(0, 0)]] [.asg 5 (.chk (.ix (.var 2) (.call 27 [.var 0, .cn (.int 8)] [(0, 0)]))), .ite (.cmp .eq (.call 27 [.var 0, .cn (.int 3)] [(0, 0)]) (.cn (.int 0))) [.asg 5 (.tup [.bin .sub (.call 27 [.var 0, .cn (.int 11)] [(0, 0)]) (.cn (.int 5)), .bin .sub (.call 27 [.var 0, .cn (.int 11)] [(0, 0)]) (.cn (.int 5))])] [], .ite (.cmp .ne (.var 5) (.tup [.cn (.int 0), .cn (.int 0)])) [.dput 3 (.var 5) (.cn (.bl true))] []], .ret (.mk .sorted true (.var 3))]
def h28 : FEnv := ⟨fun n => match n with | 27 => g27 | _ => fun _ => .bad, 1000⟩
def g28 (ds : List D) : RF := den h28 [.ow, .sh] 6 i28 ds
theorem c28 {f : Addr} {fd : FuncData} (F : Fun K "_law_moves" "_law_moves" s28 f fd) (hm : mg "_law_moves" = some (.ref f)) (T : Txt mg) (TE : TxE K mg cl) (d27 : Cal P w K mg base cl 1 "_law_take" ⟨[.ow, .sh], .im⟩ g27) : Cal P w K mg base cl 2 "_law_moves" ⟨[.ow, .sh], .ow⟩ g28 := by
  refine ⟨f, fd, ["store", "most"], ok_fn (x := "_law_moves") (qual := "_law_moves") (N := ["store", "most", "near", "found", "k", "one"]) (ks := [.ow, .sh, .ow, .ow, .im, .im]) (ir := i28) (φ := h28) (lv := 1) F ⟨rfl, rfl, rfl, by decide +kernel, rfl, by decide +kernel, by decide +kernel⟩ rfl rfl rfl (fun _ => rfl) (.inl rfl) (fun cdv A outer s H E hr tk px nd hu gd => ?_), hm, F.kp, F.binds (ps := ["store", "most"]) fun _ _ _ _ _ _ us hl => match us, hl with | [_, _], _ => rfl⟩
  exact ⟨_, _, (ss_cons (y_asg nd 2 (y_lst .ow (y_d (y_tup .ow (y_d snd_int (y_d snd_int y_d0))) (y_d (y_tup .ow (y_d snd_int (y_d (snd_neg snd_int) y_d0))) (y_d (y_tup .ow (y_d snd_int (y_d snd_int y_d0))) (y_d (y_tup .ow (y_d (snd_neg snd_int) (y_d snd_int y_d0))) (y_d (y_tup .ow (y_d snd_int (y_d snd_int y_d0))) (y_d (y_tup .ow (y_d (snd_neg snd_int) (y_d (snd_neg snd_int) y_d0))) (y_d (y_tup .ow (y_d snd_int (y_d (snd_neg snd_int) y_d0))) (y_d (y_tup .ow (y_d (snd_neg snd_int) (y_d snd_int y_d0))) y_d0))))))))))
      (ss_cons (y_asg nd 3 y_dnew)
      (ss_cons (y_forr px (y_r1 T.b_range (y_a (y_call 27 d27 gd (hr.mono (by decide)) (passAt tk) (y_io 0 (y_c (y_bin .add (y_v 1) snd_int) sc_nil))) sa_nil)) (y_gn nd 4 false) (ss_cons (y_asg nd 5 (snd_chk (y_ix (y_v 2) (y_call 27 d27 gd (hr.mono (by decide)) (passAt tk) (y_io 0 (y_c snd_int sc_nil))))))
      (ss_cons (snd_ite (y_cmpT hu .eq (y_call 27 d27 gd (hr.mono (by decide)) (passAt tk) (y_io 0 (y_c snd_int sc_nil))) snd_int) (ss_cons (y_asg nd 5 (y_tup .im (y_d (y_bin .sub (y_call 27 d27 gd (hr.mono (by decide)) (passAt tk) (y_io 0 (y_c snd_int sc_nil))) snd_int) (y_d (y_bin .sub (y_call 27 d27 gd (hr.mono (by decide)) (passAt tk) (y_io 0 (y_c snd_int sc_nil))) snd_int) y_d0))))
      ss_nil) ss_nil)
      (ss_cons (snd_ite (y_cmpT hu .ne (y_v 5) (y_tup .sh (y_d snd_int (y_d snd_int y_d0)))) (ss_cons (y_dput hu 3 snd_bl (y_v 5))
      ss_nil) ss_nil)
      ss_nil))))
      (ss_cons (y_ret (y_sorted .ow true T.b_sorted (y_v 3)))
      ss_nil)))), rfl⟩
/-! _law_chain: 0 rows, 1 wide, 2 table, 3 k, 4 place, 5 row -/
def i29 : List S := [.asg 2 (.lcr [3] (.nm 3 false) [.var 0] none (.lcr [4] (.nm 4 false) [.var 1] none (.bin .add (.bin .mul (.var 1) (.var 3)) (.var 4)))), .ret (.lce [3, 5] (.tup [.nm 3 true, .nm 5 false]) (.var 2) none (.ix (.lst [.var 5, .rev true (.var 5)]) (.bin .mod (.var 3) (.cn (.int 2)))))]
def h29 : FEnv := ⟨fun n => match n with  | _ => fun _ => .bad, 1000⟩
def g29 (ds : List D) : RF := den h29 [.sh, .sh] 6 i29 ds
theorem c29 {f : Addr} {fd : FuncData} (F : Fun K "_law_chain" "_law_chain" s29 f fd) (hm : mg "_law_chain" = some (.ref f)) (T : Txt mg) (TE : TxE K mg cl)  : Cal P w K mg base cl 1 "_law_chain" ⟨[.sh, .sh], .sh⟩ g29 := by
  refine ⟨f, fd, ["rows", "wide"], ok_fn (x := "_law_chain") (qual := "_law_chain") (N := ["rows", "wide", "table", "k", "place", "row"]) (ks := [.sh, .sh, .sh, .im, .im, .sh]) (ir := i29) (φ := h29) (lv := 0) F ⟨rfl, rfl, rfl, by decide +kernel, rfl, by decide +kernel, by decide +kernel⟩ rfl rfl rfl (fun _ => rfl) (.inl rfl) (fun cdv A outer s H E hr tk px nd hu gd => ?_), hm, F.kp, F.binds (ps := ["rows", "wide"]) fun _ _ _ _ _ _ us hl => match us, hl with | [_, _], _ => rfl⟩
  exact ⟨_, _, (ss_cons (y_asgL nd 2 (y_lcr .sh .sh [("k", 3)] nd (y_r1 T.b_range (y_a (y_v 0) sa_nil)) (fun _ _ _ _ _ => (y_gn nd 3 false)) (fun _ _ _ _ _ => td_none (ec := [])) (fun _ _ _ _ _ => (SndLC.toE (y_lcr .sh .sh [("place", 4)] nd (y_r1 T.b_range (y_a (y_v 1) sa_nil)) (fun _ _ _ _ _ => (y_gn nd 4 false)) (fun _ _ _ _ _ => td_none (ec := [])) (fun _ _ _ _ _ => (y_bin .add (y_bin .mul (y_v 1) (y_v 3)) (y_v 4))))))))
      (ss_cons (y_ret (SndLC.toE (y_lce .sh .sh [("k", 3), ("row", 5)] nd T.b_enumerate (y_v 2) (fun _ _ _ _ _ => (y_gt (y_gs (y_gn nd 3 true) (y_gs (y_gn nd 5 false) sgs_nil)))) (fun _ _ _ _ _ => td_none (ec := [])) (fun _ _ _ _ _ => (y_ix (y_lst .sh (y_d (y_v 5) (y_d (SndE.frz rfl (y_rev .ow true (y_v 5))) y_d0))) (y_bin .mod (y_v 3) snd_int))))))
      ss_nil)), rfl⟩
/-! _law_table: 0 store, 1 rows, 2 wide, 3 way, 4 most, 5 table, 6 k, 7 row, 8 place -/
def i30 : List S := [.asg 3 (.call 27 [.var 0, .cn (.int 7)] [(0, 0)]), .ite (.cmp .eq (.var 3) (.cn (.int 0))) [.ret (.call 29 [.var 1, .var 2] [])] [], .asg 4 (.chk (.ix (.lst [.cn (.int 0), .cn (.int 3), .cn (.int 8), .cn (.int 50), .bin .pow (.cn (.int 10)) (.cn (.int 25)), .cn (.int 1), .cn (.int 1)]) (.var 3))), .asg 5 (.lst []), .forr (.nm 6 false) [.var 1] [.asg 7 (.lcr [8] (.nm 8 false) [.var 2] none (.bin .sub (.call 27 [.var 0, .var 4] [(0, 0)]) (.ix (.lst [.cn (.int 0), .bin .fdiv (.var 4) (.cn (.int 2))]) (.bi .int1 [.cmp .eq (.var 3) (.cn (.int 4))])))), .ite (.cmp .eq (.var 3) (.cn (.int 5))) [.asg 7 (.lcr [8] (.nm 8 false) [.var 2] none (.bin .add (.var 6) (.bin .mul (.cn (.int 2)) (.var 8))))] [], .app 5 (.mv 7)], .ret (.mv 5)]
def h30 : FEnv := ⟨fun n => match n with | 27 => g27 | 29 => g29 | _ => fun _ => .bad, 1000⟩
def g30 (ds : List D) : RF := den h30 [.ow, .sh, .sh] 9 i30 ds
theorem c30 {f : Addr} {fd : FuncData} (F : Fun K "_law_table" "_law_table" s30 f fd) (hm : mg "_law_table" = some (.ref f)) (T : Txt mg) (TE : TxE K mg cl) (d27 : Cal P w K mg base cl 1 "_law_take" ⟨[.ow, .sh], .im⟩ g27) (d29 : Cal P w K mg base cl 1 "_law_chain" ⟨[.sh, .sh], .sh⟩ g29) : Cal P w K mg base cl 2 "_law_table" ⟨[.ow, .sh, .sh], .sh⟩ g30 := by
  refine ⟨f, fd, ["store", "rows", "wide"], ok_fn (x := "_law_table") (qual := "_law_table") (N := ["store", "rows", "wide", "way", "most", "table", "k", "row", "place"]) (ks := [.ow, .sh, .sh, .im, .im, .ow, .im, .ow, .im]) (ir := i30) (φ := h30) (lv := 1) F ⟨rfl, rfl, rfl, by decide +kernel, rfl, by decide +kernel, by decide +kernel⟩ rfl rfl rfl (fun _ => rfl) (.inl rfl) (fun cdv A outer s H E hr tk px nd hu gd => ?_), hm, F.kp, F.binds (ps := ["store", "rows", "wide"]) fun _ _ _ _ _ _ us hl => match us, hl with | [_, _, _], _ => rfl⟩
  exact ⟨_, _, (ss_cons (y_asg nd 3 (y_call 27 d27 gd (hr.mono (by decide)) (passAt tk) (y_io 0 (y_c snd_int sc_nil))))
      (ss_cons (snd_ite (y_cmpT hu .eq (y_v 3) snd_int) (ss_cons (y_ret (y_call 29 d29 gd (hr.mono (by decide)) (passAt tk) (y_c (y_v 1) (y_c (y_v 2) sc_nil))))
      ss_nil) ss_nil)
      (ss_cons (y_asg nd 4 (snd_chk (y_ix (y_lst .sh (y_d snd_int (y_d snd_int (y_d snd_int (y_d snd_int (y_d (y_bin .pow snd_int snd_int) (y_d snd_int (y_d snd_int y_d0)))))))) (y_v 3))))
      (ss_cons (y_asg nd 5 (y_lst .ow y_d0))
      (ss_cons (y_forr px (y_r1 T.b_range (y_a (y_v 1) sa_nil)) (y_gn nd 6 false) (ss_cons (y_asgL nd 7 (y_lcr .ow .ow [("place", 8)] nd (y_r1 T.b_range (y_a (y_v 2) sa_nil)) (fun _ _ _ _ _ => (y_gn nd 8 false)) (fun _ _ _ _ _ => td_none (ec := [])) (fun _ _ _ _ _ => (y_bin .sub (y_call 27 d27 gd (hr.mono (by decide)) passNo (y_io 0 (y_c (y_v 4) sc_nil))) (y_ix (y_lst .sh (y_d snd_int (y_d (y_bin .fdiv (y_v 4) snd_int) y_d0))) (y_bi .int1 T.b_int (y_a (y_cmp hu .eq (y_v 3) snd_int) sa_nil)))))))
      (ss_cons (snd_ite (y_cmpT hu .eq (y_v 3) snd_int) (ss_cons (y_asgL nd 7 (y_lcr .ow .ow [("place", 8)] nd (y_r1 T.b_range (y_a (y_v 2) sa_nil)) (fun _ _ _ _ _ => (y_gn nd 8 false)) (fun _ _ _ _ _ => td_none (ec := [])) (fun _ _ _ _ _ => (y_bin .add (y_v 6) (y_bin .mul snd_int (y_v 8))))))
      ss_nil) ss_nil)
      (ss_cons (y_app 5 (y_mv 7))
      ss_nil))))
      (ss_cons (y_ret (SndE.frz rfl (y_mv 5)))
      ss_nil)))))), rfl⟩
/-! _law_land: 0 store, 1 rows, 2 wide, 3 table, 4 steps, 5 jumps, 6 move -/
def i31 : List S := [.asg 1 (.chk (.ix (.lst [.bin .add (.cn (.int 1)) (.call 27 [.var 0, .cn (.int 6)] [(0, 0)]), .bin .add (.cn (.int 2)) (.call 27 [.var 0, .cn (.int 5)] [(0, 0)]), .cn (.int 6)]) (.call 27 [.var 0, .cn (.int 3)] [(0, 0)]))), .asg 2 (.chk (.ix (.lst [.bin .add (.cn (.int 1)) (.call 27 [.var 0, .cn (.int 6)] [(0, 0)]), .bin .add (.cn (.int 2)) (.call 27 [.var 0, .cn (.int 5)] [(0, 0)]), .cn (.int 6)]) (.call 27 [.var 0, .cn (.int 3)] [(0, 0)]))), .asg 3 (.call 30 [.var 0, .var 1, .var 2] [(0, 0)]), .asg 4 (.call 28 [.var 0, .cn (.int 8)] [(0, 0)]), .ite (.cmp .eq (.call 27 [.var 0, .cn (.int 3)] [(0, 0)]) (.cn (.int 0))) [.asg 4 (.lst [.tup [.neg (.cn (.int 1)), .cn (.int 0)], .tup [.cn (.int 0), .neg (.cn (.int 1))], .tup [.cn (.int 0), .cn (.int 1)], .tup [.cn (.int 1), .cn (.int 0)]])] [], .asg 5 (.lcl false [6] (.nm 6 false) (.call 28 [.var 0, .cn (.int 8)] [(0, 0)]) (some (.cmp .notin (.var 6) (.var 4))) (.var 6)), .ite (.cmp .eq (.call 27 [.var 0, .cn (.int 6)] [(0, 0)]) (.cn (.int 0))) [.asgT [.nm 4 false, .nm 5 false] (.tup [.var 5, .var 4])] [], .ret (.tup [.var 3, .var 4, .var 5])]
def h31 : FEnv := ⟨fun n => match n with | 27 => g27 | 30 => g30 | 28 => g28 | _ => fun _ => .bad, 1000⟩
def g31 (ds : List D) : RF := den h31 [.ow] 7 i31 ds
theorem c31 {f : Addr} {fd : FuncData} (F : Fun K "_law_land" "_law_land" s31 f fd) (hm : mg "_law_land" = some (.ref f)) (T : Txt mg) (TE : TxE K mg cl) (d27 : Cal P w K mg base cl 1 "_law_take" ⟨[.ow, .sh], .im⟩ g27) (d30 : Cal P w K mg base cl 2 "_law_table" ⟨[.ow, .sh, .sh], .sh⟩ g30) (d28 : Cal P w K mg base cl 2 "_law_moves" ⟨[.ow, .sh], .ow⟩ g28) : Cal P w K mg base cl 3 "_law_land" ⟨[.ow], .sh⟩ g31 := by
  refine ⟨f, fd, ["store"], ok_fn (x := "_law_land") (qual := "_law_land") (N := ["store", "rows", "wide", "table", "steps", "jumps", "move"]) (ks := [.ow, .im, .im, .sh, .sh, .sh, .sh]) (ir := i31) (φ := h31) (lv := 2) F ⟨rfl, rfl, rfl, by decide +kernel, rfl, by decide +kernel, by decide +kernel⟩ rfl rfl rfl (fun _ => rfl) (.inl rfl) (fun cdv A outer s H E hr tk px nd hu gd => ?_), hm, F.kp, F.binds (ps := ["store"]) fun _ _ _ _ _ _ us hl => match us, hl with | [_], _ => rfl⟩
  exact ⟨_, _, (ss_cons (y_asg nd 1 (snd_chk (y_ix (y_lst .sh (y_d (y_bin .add snd_int (y_call 27 d27 gd (hr.mono (by decide)) (passAt tk) (y_io 0 (y_c snd_int sc_nil)))) (y_d (y_bin .add snd_int (y_call 27 d27 gd (hr.mono (by decide)) (passAt tk) (y_io 0 (y_c snd_int sc_nil)))) (y_d snd_int y_d0)))) (y_call 27 d27 gd (hr.mono (by decide)) (passAt tk) (y_io 0 (y_c snd_int sc_nil))))))
      (ss_cons (y_asg nd 2 (snd_chk (y_ix (y_lst .sh (y_d (y_bin .add snd_int (y_call 27 d27 gd (hr.mono (by decide)) (passAt tk) (y_io 0 (y_c snd_int sc_nil)))) (y_d (y_bin .add snd_int (y_call 27 d27 gd (hr.mono (by decide)) (passAt tk) (y_io 0 (y_c snd_int sc_nil)))) (y_d snd_int y_d0)))) (y_call 27 d27 gd (hr.mono (by decide)) (passAt tk) (y_io 0 (y_c snd_int sc_nil))))))
      (ss_cons (y_asg nd 3 (y_call 30 d30 gd (hr.mono (by decide)) (passAt tk) (y_io 0 (y_c (y_v 1) (y_c (y_v 2) sc_nil)))))
      (ss_cons (y_asg nd 4 (SndE.frz rfl (y_call 28 d28 gd (hr.mono (by decide)) (passAt tk) (y_io 0 (y_c snd_int sc_nil)))))
      (ss_cons (snd_ite (y_cmpT hu .eq (y_call 27 d27 gd (hr.mono (by decide)) (passAt tk) (y_io 0 (y_c snd_int sc_nil))) snd_int) (ss_cons (y_asg nd 4 (y_lst .sh (y_d (y_tup .sh (y_d (snd_neg snd_int) (y_d snd_int y_d0))) (y_d (y_tup .sh (y_d snd_int (y_d (snd_neg snd_int) y_d0))) (y_d (y_tup .sh (y_d snd_int (y_d snd_int y_d0))) (y_d (y_tup .sh (y_d snd_int (y_d snd_int y_d0))) y_d0))))))
      ss_nil) ss_nil)
      (ss_cons (y_asgL nd 5 (y_lcl .sh .sh [("move", 6)] nd (SndE.frz rfl (y_call 28 d28 gd (hr.mono (by decide)) (passAt tk) (y_io 0 (y_c snd_int sc_nil)))) (fun _ _ _ _ _ => (y_gn nd 6 false)) (fun _ _ _ _ _ => td_some (SndT.canon (y_cmpT hu .notin (y_v 6) (y_v 4)))) (fun _ _ _ _ _ => (y_v 6))))
      (ss_cons (snd_ite (y_cmpT hu .eq (y_call 27 d27 gd (hr.mono (by decide)) (passAt tk) (y_io 0 (y_c snd_int sc_nil))) snd_int) (ss_cons (y_asgT2 (y_tup .sh (y_d (y_v 5) (y_d (y_v 4) y_d0))) (y_gt (y_gs (y_gn nd 4 false) (y_gs (y_gn nd 5 false) sgs_nil))))
      ss_nil) ss_nil)
      (ss_cons (y_ret (y_tup .sh (y_d (y_v 3) (y_d (y_v 4) (y_d (y_v 5) y_d0)))))
      ss_nil)))))))), rfl⟩
/-! _law_copy: 0 land, 1 row -/
def i32 : List S := [.ret (.tup [.lcl false [1] (.nm 1 false) (.ix (.var 0) (.cn (.int 0))) none (.mk .list true (.var 1)), .mk .list true (.ix (.var 0) (.cn (.int 1))), .mk .list true (.ix (.var 0) (.cn (.int 2)))])]
def h32 : FEnv := ⟨fun n => match n with  | _ => fun _ => .bad, 1000⟩
def g32 (ds : List D) : RF := den h32 [.sh] 2 i32 ds
theorem c32 {f : Addr} {fd : FuncData} (F : Fun K "_law_copy" "_law_copy" s32 f fd) (hm : mg "_law_copy" = some (.ref f)) (T : Txt mg) (TE : TxE K mg cl)  : Cal P w K mg base cl 1 "_law_copy" ⟨[.sh], .ow⟩ g32 := by
  refine ⟨f, fd, ["land"], ok_fn (x := "_law_copy") (qual := "_law_copy") (N := ["land", "row"]) (ks := [.sh, .sh]) (ir := i32) (φ := h32) (lv := 0) F ⟨rfl, rfl, rfl, by decide +kernel, rfl, by decide +kernel, by decide +kernel⟩ rfl rfl rfl (fun _ => rfl) (.inl rfl) (fun cdv A outer s H E hr tk px nd hu gd => ?_), hm, F.kp, F.binds (ps := ["land"]) fun _ _ _ _ _ _ us hl => match us, hl with | [_], _ => rfl⟩
  exact ⟨_, _, (ss_cons (y_ret (y_tup .ow (y_d (SndLC.toE (y_lcl .ow .ow [("row", 1)] nd (y_ix (y_v 0) snd_int) (fun _ _ _ _ _ => (y_gn nd 1 false)) (fun _ _ _ _ _ => td_none (ec := [])) (fun _ _ _ _ _ => (y_list .ow true T.b_list (y_v 1))))) (y_d (y_list .ow true T.b_list (y_ix (y_v 0) snd_int)) (y_d (y_list .ow true T.b_list (y_ix (y_v 0) snd_int)) y_d0)))))
      ss_nil), rfl⟩
/-! _law_no_land: 0 store, 1 land, 2 k, 3 place, 4 odd, 5 bent, 6 uneven, 7 level, 8 other, 9 move, 10 many, 11 few, 12 bads, 13 bad, 14 some, 15 table, 16 steps, 17 jumps, 18 row, 19 right -/
def i73 : List S := [.asgT [.nm 15 false, .nm 16 false, .nm 17 false] (.var 1), .asg 2 (.call 27 [.var 0, .bi .len [.var 15]] [(0, 0)]), .asg 3 (.call 27 [.var 0, .bi .len [.ix (.var 15) (.cn (.int 0))]] [(0, 0)]), .asg 4 (.ix (.lst [.cn (.bl true), .cn (.bl false), .cn .non, .cn (.str "1"), .lst [.cn (.int 1)], .tup [.cn (.int 1)], .dnew, .cn (.str "")]) (.call 27 [.var 0, .cn (.int 8)] [(0, 0)])), .drop 5, .asg 5 (.lcl false [18] (.nm 18 false) (.var 15) none (.mk .list true (.var 18))), .setp 5 [.var 2] (.var 3) (.mv 4), .drop 6, .asg 6 (.lcl false [18] (.nm 18 false) (.var 15) none (.mk .list true (.var 18))), .appp 6 [.var 2] (.cn (.int 1)), .app 6 (.rep true (.lst [.cn (.int 1)]) (.bi .len [.ix (.var 15) (.cn (.int 0))])), .drop 7, .asg 7 (.cat false (.lcl false [18] (.nm 18 false) (.var 15) none (.mk .list true (.var 18))) (.rp1 (.lst [.lst []]) (.bi .int1 [.cmp .lt (.bi .len [.var 15]) (.cn (.int 2))]))), .appp 7 [.var 2] (.cn (.int 1)), .setp 7 [] (.bin .sub (.var 2) (.cn (.int 1))) (.sl true (.ix (.var 7) (.bin .sub (.var 2) (.cn (.int 1)))) none (some (.neg (.cn (.int 1))))), .drop 8, .asg 8 (.lst [.cat false (.var 15) (.lst [.lst []]), .var 6, .lst [], .lst [.lst []], .tpl false (.var 15), .cn .non, .var 7, .var 7]), .app 8 (.lcl false [18] (.nm 18 false) (.var 15) none (.tpl false (.var 18))), .asg 8 (.cat false (.mv 8) (.lst [.lst [.rep false (.lst [.cn (.int 1)]) (.cn (.int 7))], .rep false (.lst [.lst [.cn (.int 1)]]) (.cn (.int 7)), .var 5, .var 5, .var 5])), .asg 9 (.lst [.tup [.cn (.int 0), .cn (.int 0)], .tup [.cn (.int 6), .cn (.int 0)], .tup [.cn (.int 0), .neg (.cn (.int 6))], .tup [.cn (.int 1), .cn (.int 2), .cn (.int 3)], .tup [.cn (.int 1)], .lst [.cn (.int 1), .cn (.int 1)], .cn .non, .cn (.str "0:1"), .tup [.cn (.bl true), .cn (.int 0)], .tup [.cn (.int 0), .cn (.bl false)]]), .asg 9 (.ix (.cat false (.var 9) (.lst [.tup [.cn (.int 0), .cn .non], .cn (.int 3), .tup [], .tup [.neg (.cn (.int 6)), .cn (.int 0)], .tup [.cn (.int 0), .cn (.int 6)]])) (.call 27 [.var 0, .cn (.int 15)] [(0, 0)])), .asg 10 (.lcr [19] (.nm 19 false) [.cn (.int 9)] none (.tup [.cn (.int 5), .bin .sub (.var 19) (.cn (.int 4))])), .asg 11 (.lst [.tup [.cn (.int 2), .cn (.int 3)], .tup [.cn (.int 2), .cn (.int 4)]]), .asg 12 (.lst [.cat false (.var 11) (.lst [.var 9]), .cat false (.lst [.var 9]) (.var 11), .rev false (.var 11), .cat false (.var 11) (.sl false (.var 11) (some (.cn (.int 1))) none)]), .asg 13 (.ix (.cat false (.var 12) (.lst [.var 10, .tpl false (.var 11), .cn .non, .dnew, .cn (.str ""), .lst [.var 11]])) (.call 27 [.var 0, .cn (.int 10)] [(0, 0)])), .drop 14, .asg 14 (.lst [.tup [.var 15, .var 13, .lst []], .tup [.var 15, .lst [], .var 13], .tup [.var 15, .var 11, .var 11]]), .app 14 (.tup [.var 15, .lst [.tup [.cn (.int 1), .cn (.int 0)]], .lst [.tup [.cn (.int 0), .cn (.int 1)], .tup [.cn (.int 1), .cn (.int 0)]]]), .asg 14 (.cat false (.mv 14) (.rep false (.lst [.tup [.ix (.var 8) (.call 27 [.var 0, .cn (.int 14)] [(0, 0)]), .var 16, .var 17]]) (.cn (.int 3)))), .asg 14 (.cat false (.mv 14) (.lst [.tup [.var 15, .var 16], .tup [.var 15, .var 16, .var 17, .lst []]])), .asg 14 (.cat false (.mv 14) (.lst [.lst [.var 15, .var 16, .var 17], .var 15, .cn .non, .cn (.int 0), .cn (.str ""), .dnew, .cn (.bl true), .tup []])), .ret (.ix (.var 14) (.call 27 [.var 0, .cn (.int 17)] [(0, 0)]))]
def h73 : FEnv := ⟨fun n => match n with | 27 => g27 | _ => fun _ => .bad, 1000⟩
def g73 (ds : List D) : RF := den h73 [.ow, .sh] 20 i73 ds
theorem c73 {f : Addr} {fd : FuncData} (F : Fun K "_law_no_land" "_law_no_land" s73 f fd) (hm : mg "_law_no_land" = some (.ref f)) (T : Txt mg) (TE : TxE K mg cl) (d27 : Cal P w K mg base cl 1 "_law_take" ⟨[.ow, .sh], .im⟩ g27) : Cal P w K mg base cl 2 "_law_no_land" ⟨[.ow, .sh], .sh⟩ g73 := by
  refine ⟨f, fd, ["store", "land"], ok_fn (x := "_law_no_land") (qual := "_law_no_land") (N := ["store", "land", "k", "place", "odd", "bent", "uneven", "level", "other", "move", "many", "few", "bads", "bad", "some", "table", "steps", "jumps", "row", "right"]) (ks := [.ow, .sh, .sh, .sh, .ow, .sh, .sh, .sh, .sh, .sh, .sh, .sh, .sh, .sh, .sh, .sh, .sh, .sh, .sh, .sh]) (ir := i73) (φ := h73) (lv := 1) F ⟨rfl, rfl, rfl, by decide +kernel, rfl, by decide +kernel, by decide +kernel⟩ rfl rfl rfl (fun _ => rfl) (.inl rfl) (fun cdv A outer s H E hr tk px nd hu gd => ?_), hm, F.kp, F.binds (ps := ["store", "land"]) fun _ _ _ _ _ _ us hl => match us, hl with | [_, _], _ => rfl⟩
  exact ⟨_, _, (ss_cons (y_asgT (y_v 1) (y_gt (y_gs (y_gn nd 15 false) (y_gs (y_gn nd 16 false) (y_gs (y_gn nd 17 false) sgs_nil)))))
      (ss_cons (y_asg nd 2 (y_call 27 d27 gd (hr.mono (by decide)) (passAt tk) (y_io 0 (y_c (y_bi .len T.b_len (y_a (y_v 15) sa_nil)) sc_nil))))
      (ss_cons (y_asg nd 3 (y_call 27 d27 gd (hr.mono (by decide)) (passAt tk) (y_io 0 (y_c (y_bi .len T.b_len (y_a (y_ix (y_v 15) snd_int) sa_nil)) sc_nil))))
      (ss_cons (y_asg nd 4 (y_ixo (y_lst .ow (y_d snd_bl (y_d snd_bl (y_d snd_non (y_d snd_str (y_d (y_lst .ow (y_d snd_int y_d0)) (y_d (y_tup .ow (y_d snd_int y_d0)) (y_d y_dnew (y_d snd_str y_d0))))))))) (y_call 27 d27 gd (hr.mono (by decide)) (passAt tk) (y_io 0 (y_c snd_int sc_nil)))))
      (y_thaw (q := .ow) 5 (y_xc (q := .ow) 5 (y_asgL nd 5 (y_lcl .ow .ow [("row", 18)] nd (y_v 15) (fun _ _ _ _ _ => (y_gn nd 18 false)) (fun _ _ _ _ _ => td_none (ec := [])) (fun _ _ _ _ _ => (y_list .ow true T.b_list (y_v 18)))))
      (y_xc (q := .ow) 5 (y_setp (path := [.var 2]) 5 (y_mv 4) (y_p (path := []) (y_p0 5) (y_v 2)) (y_v 3))
      (y_xe (q := .ow) 5 (y_thaw (q := .ow) 6 (y_xc (q := .ow) 6 (y_asgL nd 6 (y_lcl .ow .ow [("row", 18)] nd (y_v 15) (fun _ _ _ _ _ => (y_gn nd 18 false)) (fun _ _ _ _ _ => td_none (ec := [])) (fun _ _ _ _ _ => (y_list .ow true T.b_list (y_v 18)))))
      (y_xc (q := .ow) 6 (y_appp (path := [.var 2]) 6 (y_p (path := []) (y_p0 6) (y_v 2)) snd_int)
      (y_xc (q := .ow) 6 (y_app 6 (y_rep .ow true (y_lst .sh (y_d snd_int y_d0)) (y_bi .len T.b_len (y_a (y_ix (y_v 15) snd_int) sa_nil))))
      (y_xe (q := .ow) 6 (y_thaw (q := .ow) 7 (y_xc (q := .ow) 7 (y_asg nd 7 (y_cato (SndLC.toE (y_lcl .ow .ow [("row", 18)] nd (y_v 15) (fun _ _ _ _ _ => (y_gn nd 18 false)) (fun _ _ _ _ _ => td_none (ec := [])) (fun _ _ _ _ _ => (y_list .ow true T.b_list (y_v 18))))) (y_rp1 (y_lst .ow (y_d (y_lst .ow y_d0) y_d0)) (y_bi .int1 T.b_int (y_a (y_cmp hu .lt (y_bi .len T.b_len (y_a (y_v 15) sa_nil)) snd_int) sa_nil)))))
      (y_xc (q := .ow) 7 (y_appp (path := [.var 2]) 7 (y_p (path := []) (y_p0 7) (y_v 2)) snd_int)
      (y_xc (q := .ow) 7 (y_setp (path := []) 7 (y_sl .ow true (y_ix (y_v 7) (y_bin .sub (y_v 2) snd_int)) so_none (so_some (snd_neg snd_int))) (y_p0 7) (y_bin .sub (y_v 2) snd_int))
      (y_xe (q := .ow) 7 (y_thaw (q := .os) 8 (y_xc (q := .os) 8 (y_asg nd 8 (y_lst .os (y_d (y_cat .sh false (y_v 15) (y_lst .sh (y_d (y_lst .sh y_d0) y_d0))) (y_d (y_v 6) (y_d (y_lst .sh y_d0) (y_d (y_lst .sh (y_d (y_lst .sh y_d0) y_d0)) (y_d (y_tpl T.b_tuple (y_v 15)) (y_d snd_non (y_d (y_v 7) (y_d (y_v 7) y_d0))))))))))
      (y_xc (q := .os) 8 (y_app 8 (SndLC.toE (y_lcl .sh .sh [("row", 18)] nd (y_v 15) (fun _ _ _ _ _ => (y_gn nd 18 false)) (fun _ _ _ _ _ => td_none (ec := [])) (fun _ _ _ _ _ => (y_tpl T.b_tuple (y_v 18))))))
      (y_xc (q := .os) 8 (y_asg nd 8 (y_cat .os false (SndE.frz rfl (y_mvs 8)) (y_lst .sh (y_d (y_lst .sh (y_d (y_rep .sh false (y_lst .sh (y_d snd_int y_d0)) snd_int) y_d0)) (y_d (y_rep .sh false (y_lst .sh (y_d (y_lst .sh (y_d snd_int y_d0)) y_d0)) snd_int) (y_d (y_v 5) (y_d (y_v 5) (y_d (y_v 5) y_d0))))))))
      (y_xe (q := .os) 8 (ss_cons (y_asg nd 9 (y_lst .sh (y_d (y_tup .sh (y_d snd_int (y_d snd_int y_d0))) (y_d (y_tup .sh (y_d snd_int (y_d snd_int y_d0))) (y_d (y_tup .sh (y_d snd_int (y_d (snd_neg snd_int) y_d0))) (y_d (y_tup .sh (y_d snd_int (y_d snd_int (y_d snd_int y_d0)))) (y_d (y_tup .sh (y_d snd_int y_d0)) (y_d (y_lst .sh (y_d snd_int (y_d snd_int y_d0))) (y_d snd_non (y_d snd_str (y_d (y_tup .sh (y_d snd_bl (y_d snd_int y_d0))) (y_d (y_tup .sh (y_d snd_int (y_d snd_bl y_d0))) y_d0))))))))))))
      (ss_cons (y_asg nd 9 (y_ix (y_cat .sh false (y_v 9) (y_lst .sh (y_d (y_tup .sh (y_d snd_int (y_d snd_non y_d0))) (y_d snd_int (y_d (y_tup .sh y_d0) (y_d (y_tup .sh (y_d (snd_neg snd_int) (y_d snd_int y_d0))) (y_d (y_tup .sh (y_d snd_int (y_d snd_int y_d0))) y_d0))))))) (y_call 27 d27 gd (hr.mono (by decide)) (passAt tk) (y_io 0 (y_c snd_int sc_nil)))))
      (ss_cons (y_asgL nd 10 (y_lcr .sh .sh [("right", 19)] nd (y_r1 T.b_range (y_a snd_int sa_nil)) (fun _ _ _ _ _ => (y_gn nd 19 false)) (fun _ _ _ _ _ => td_none (ec := [])) (fun _ _ _ _ _ => (y_tup .sh (y_d snd_int (y_d (y_bin .sub (y_v 19) snd_int) y_d0))))))
      (ss_cons (y_asg nd 11 (y_lst .sh (y_d (y_tup .sh (y_d snd_int (y_d snd_int y_d0))) (y_d (y_tup .sh (y_d snd_int (y_d snd_int y_d0))) y_d0))))
      (ss_cons (y_asg nd 12 (y_lst .sh (y_d (y_cat .sh false (y_v 11) (y_lst .sh (y_d (y_v 9) y_d0))) (y_d (y_cat .sh false (y_lst .sh (y_d (y_v 9) y_d0)) (y_v 11)) (y_d (y_rev .sh false (y_v 11)) (y_d (y_cat .sh false (y_v 11) (y_sl .sh false (y_v 11) (so_some snd_int) so_none)) y_d0))))))
      (ss_cons (y_asg nd 13 (y_ix (y_cat .sh false (y_v 12) (y_lst .sh (y_d (y_v 10) (y_d (y_tpl T.b_tuple (y_v 11)) (y_d snd_non (y_d (SndE.frz rfl y_dnew) (y_d snd_str (y_d (y_lst .sh (y_d (y_v 11) y_d0)) y_d0)))))))) (y_call 27 d27 gd (hr.mono (by decide)) (passAt tk) (y_io 0 (y_c snd_int sc_nil)))))
      (y_thaw (q := .os) 14 (y_xc (q := .os) 14 (y_asg nd 14 (y_lst .os (y_d (y_tup .sh (y_d (y_v 15) (y_d (y_v 13) (y_d (y_lst .sh y_d0) y_d0)))) (y_d (y_tup .sh (y_d (y_v 15) (y_d (y_lst .sh y_d0) (y_d (y_v 13) y_d0)))) (y_d (y_tup .sh (y_d (y_v 15) (y_d (y_v 11) (y_d (y_v 11) y_d0)))) y_d0)))))
      (y_xc (q := .os) 14 (y_app 14 (y_tup .sh (y_d (y_v 15) (y_d (y_lst .sh (y_d (y_tup .sh (y_d snd_int (y_d snd_int y_d0))) y_d0)) (y_d (y_lst .sh (y_d (y_tup .sh (y_d snd_int (y_d snd_int y_d0))) (y_d (y_tup .sh (y_d snd_int (y_d snd_int y_d0))) y_d0))) y_d0)))))
      (y_xc (q := .os) 14 (y_asg nd 14 (y_cat .os false (SndE.frz rfl (y_mvs 14)) (y_rep .sh false (y_lst .sh (y_d (y_tup .sh (y_d (y_ix (y_v 8) (y_call 27 d27 gd (hr.mono (by decide)) (passAt tk) (y_io 0 (y_c snd_int sc_nil)))) (y_d (y_v 16) (y_d (y_v 17) y_d0)))) y_d0)) snd_int)))
      (y_xc (q := .os) 14 (y_asg nd 14 (y_cat .os false (SndE.frz rfl (y_mvs 14)) (y_lst .sh (y_d (y_tup .sh (y_d (y_v 15) (y_d (y_v 16) y_d0))) (y_d (y_tup .sh (y_d (y_v 15) (y_d (y_v 16) (y_d (y_v 17) (y_d (y_lst .sh y_d0) y_d0))))) y_d0)))))
      (y_xc (q := .os) 14 (y_asg nd 14 (y_cat .os false (SndE.frz rfl (y_mvs 14)) (y_lst .sh (y_d (y_lst .sh (y_d (y_v 15) (y_d (y_v 16) (y_d (y_v 17) y_d0)))) (y_d (y_v 15) (y_d snd_non (y_d snd_int (y_d snd_str (y_d (SndE.frz rfl y_dnew) (y_d snd_bl (y_d (y_tup .sh y_d0) y_d0)))))))))))
      (y_xe (q := .os) 14 (ss_cons (y_ret (y_ix (y_v 14) (y_call 27 d27 gd (hr.mono (by decide)) (passAt tk) (y_io 0 (y_c snd_int sc_nil)))))
      ss_nil))))))))))))))))))))))))))))))))))))), rfl⟩
/-! _law_kind: 0 e, 1 due, 2 kinds, 3 words, 4 found, 5 word, 6 kind -/
def i74 : List S := [.asg 2 (.lst [.isx [1] [] (.var 0), .isx [] [1] (.var 0), .isx [] [1] (.var 0), .isx [] [1] (.var 0)]), .asg 2 (.cat false (.var 2) (.lst [.isx [] [1] (.var 0), .isx [] [1] (.var 0), .isx [] [1] (.var 0), .isx [] [1] (.var 0)])), .asg 3 (.lst [.cn (.str "land"), .cn (.str "cell"), .cn (.str "number"), .cn (.str "way"), .cn (.str "weights"), .cn (.str "text"), .cn (.str "name"), .cn (.str "row")]), .asg 4 (.lcz [5, 6] (.tup [.nm 5 false, .nm 6 false]) (.var 3) (.var 2) (some (.var 6)) (.var 5)), .ret (.and (.isx [1] [] (.var 0)) (.cmp .eq (.var 4) (.lst [.var 1])))]
def h74 : FEnv := ⟨fun n => match n with  | _ => fun _ => .bad, 1000⟩
def g74 (ds : List D) : RF := den h74 [.sh, .sh] 7 i74 ds
theorem c74 {f : Addr} {fd : FuncData} (F : Fun K "_law_kind" "_law_kind" s74 f fd) (hm : mg "_law_kind" = some (.ref f)) (T : Txt mg) (TE : TxE K mg cl)  : Cal P w K mg base cl 1 "_law_kind" ⟨[.sh, .sh], .im⟩ g74 := by
  refine ⟨f, fd, ["e", "due"], ok_fn (x := "_law_kind") (qual := "_law_kind") (N := ["e", "due", "kinds", "words", "found", "word", "kind"]) (ks := [.sh, .sh, .sh, .sh, .sh, .sh, .sh]) (ir := i74) (φ := h74) (lv := 0) F ⟨rfl, rfl, rfl, by decide +kernel, rfl, by decide +kernel, by decide +kernel⟩ rfl rfl rfl (fun _ => rfl) (.inl rfl) (fun cdv A outer s H E hr tk px nd hu gd => ?_), hm, F.kp, F.binds (ps := ["e", "due"]) fun _ _ _ _ _ _ us hl => match us, hl with | [_, _], _ => rfl⟩
  exact ⟨_, _, (ss_cons (y_asg nd 2 (y_lst .sh (y_d (y_isx (d := 1) TE.q1 T.b_isinstance (y_v 0) (ex_cons ⟨_, TE.x1.ix, TE.x1.o, TE.w1_1⟩ ex_nil) ex_nil) (y_d (y_isx (d := 2) TE.q2 T.b_isinstance (y_v 0) ex_nil (ex_cons ⟨_, TE.x1.ix, TE.x1.o, TE.w1_2⟩ ex_nil)) (y_d (y_isx (d := 3) TE.q3 T.b_isinstance (y_v 0) ex_nil (ex_cons ⟨_, TE.x1.ix, TE.x1.o, TE.w1_3⟩ ex_nil)) (y_d (y_isx (d := 4) TE.q4 T.b_isinstance (y_v 0) ex_nil (ex_cons ⟨_, TE.x1.ix, TE.x1.o, TE.w1_4⟩ ex_nil)) y_d0))))))
      (ss_cons (y_asg nd 2 (y_cat .sh false (y_v 2) (y_lst .sh (y_d (y_isx (d := 5) TE.q5 T.b_isinstance (y_v 0) ex_nil (ex_cons ⟨_, TE.x1.ix, TE.x1.o, TE.w1_5⟩ ex_nil)) (y_d (y_isx (d := 6) TE.q6 T.b_isinstance (y_v 0) ex_nil (ex_cons ⟨_, TE.x1.ix, TE.x1.o, TE.w1_6⟩ ex_nil)) (y_d (y_isx (d := 7) TE.q7 T.b_isinstance (y_v 0) ex_nil (ex_cons ⟨_, TE.x1.ix, TE.x1.o, TE.w1_7⟩ ex_nil)) (y_d (y_isx (d := 8) TE.q8 T.b_isinstance (y_v 0) ex_nil (ex_cons ⟨_, TE.x1.ix, TE.x1.o, TE.w1_8⟩ ex_nil)) y_d0)))))))
      (ss_cons (y_asg nd 3 (y_lst .sh (y_d snd_str (y_d snd_str (y_d snd_str (y_d snd_str (y_d snd_str (y_d snd_str (y_d snd_str (y_d snd_str y_d0))))))))))
      (ss_cons (y_asgL nd 4 (y_lcz .sh .sh [("word", 5), ("kind", 6)] nd T.b_zip (y_v 3) (y_v 2) (fun _ _ _ _ _ => (y_gt (y_gs (y_gn nd 5 false) (y_gs (y_gn nd 6 false) sgs_nil)))) (fun _ _ _ _ _ => td_some (SndT.canon (y_T (y_v 6)))) (fun _ _ _ _ _ => (y_v 5))))
      (ss_cons (y_ret (snd_and (y_isv T.b_ValueError T.b_isinstance (y_v 0) (ex_cons ⟨_, TE.x1.ix, TE.x1.o, TE.v1⟩ ex_nil)) (snd_one (y_cmp hu .eq (y_v 4) (y_lst .sh (y_d (y_v 1) y_d0))))))
      ss_nil))))), rfl⟩
/-! _law_word: 0 door, 1 land, 2 caught, 3 e -/
def i75 : List S := [.asg 2 (.cn .non), .tryK 2 3 [1] [.ite (.cmp .eq (.var 0) (.cn (.int 0))) [.ex (.call 24 [.var 1] [])] [.ex (.call 37 [.var 1] [])]], .ite (.cmp .isn (.var 2) (.cn .non)) [.ret (.cn (.str "told"))] [], .ret (.chk (.ix (.lst [.cn (.str "other"), .cn (.str "land")]) (.bi .int1 [.call 74 [.var 2, .cn (.str "land")] []])))]
def h75 : FEnv := ⟨fun n => match n with | 24 => g24 | 37 => g37 | 74 => g74 | _ => fun _ => .bad, 1000⟩
def g75 (ds : List D) : RF := den h75 [.sh, .sh] 4 i75 ds
theorem c75 {f : Addr} {fd : FuncData} (F : Fun K "_law_word" "_law_word" s75 f fd) (hm : mg "_law_word" = some (.ref f)) (T : Txt mg) (TE : TxE K mg cl) (d24 : Cal P w K mg base cl 6 "turned_about" ⟨[.sh], .ow⟩ g24) (d37 : Cal P w K mg base cl 6 "laid_over" ⟨[.sh], .ow⟩ g37) (d74 : Cal P w K mg base cl 1 "_law_kind" ⟨[.sh, .sh], .im⟩ g74) : Cal P w K mg base cl 7 "_law_word" ⟨[.sh, .sh], .im⟩ g75 := by
  refine ⟨f, fd, ["door", "land"], ok_fn (x := "_law_word") (qual := "_law_word") (N := ["door", "land", "caught", "e"]) (ks := [.sh, .sh, .sh, .sh]) (ir := i75) (φ := h75) (lv := 6) F ⟨rfl, rfl, rfl, by decide +kernel, rfl, by decide +kernel, by decide +kernel⟩ rfl rfl rfl (fun _ => rfl) (.inl rfl) (fun cdv A outer s H E hr tk px nd hu gd => ?_), hm, F.kp, F.binds (ps := ["door", "land"]) fun _ _ _ _ _ _ us hl => match us, hl with | [_, _], _ => rfl⟩
  exact ⟨_, _, (ss_cons (y_asg nd 2 snd_non)
      (ss_cons (y_tryK 2 3 [1] nd TE.c0 (ex_cons ⟨TE.x1.e, TE.x1.ix⟩ ex_nil) (fun W pn xe tk px => (ss_cons (snd_ite (y_cmpT hu .eq (y_v 0) snd_int) (ss_cons (y_ex (y_call 24 d24 gd (hr.mono (by decide)) (passAt tk) (y_c (y_v 1) sc_nil)))
      ss_nil) (ss_cons (y_ex (y_call 37 d37 gd (hr.mono (by decide)) (passAt tk) (y_c (y_v 1) sc_nil)))
      ss_nil))
      ss_nil)))
      (ss_cons (snd_ite (y_cmpT hu .isn (y_v 2) snd_non) (ss_cons (y_ret snd_str)
      ss_nil) ss_nil)
      (ss_cons (y_ret (snd_chk (y_ix (y_lst .sh (y_d snd_str (y_d snd_str y_d0))) (y_bi .int1 T.b_int (y_a (y_call 74 d74 gd (hr.mono (by decide)) (passAt tk) (y_c (y_v 2) (y_c snd_str sc_nil))) sa_nil)))))
      ss_nil)))), rfl⟩
/-! law: 0 script, 1 at, 2 store, 3 land, 4 handed, 5 turn, 6 bad, 7 kept, 8 door -/
def i76 : List S := [.forr (.nm 1 false) [.bi .min2 [.bi .max2 [.bi .len [.var 0], .cn (.int 3)], .cn (.int 12)]] [.asg 2 (.call 26 [.call 25 [.var 0, .var 1] []] []), .asg 3 (.call 31 [.var 2] [(0, 2)]), .asg 4 (.call 32 [.var 3] []), .forr (.nm 5 false) [.cn (.int 8)] [.asg 6 (.call 73 [.var 2, .var 3] [(0, 2)]), .asg 7 (.rpr (.var 6)), .forr (.nm 8 false) [.cn (.int 2)] [.ite (.or (.cmp .ne (.call 75 [.var 8, .var 6] []) (.cn (.str "land"))) (.cmp .ne (.call 75 [.var 8, .var 4] []) (.cn (.str "told")))) [.ret (.cn (.bl false))] []], .ite (.or (.cmp .ne (.rpr (.var 6)) (.var 7)) (.cmp .ne (.var 4) (.var 3))) [.ret (.cn (.bl false))] []]], .ret (.cn (.bl true))]
def h76 : FEnv := ⟨fun n => match n with | 26 => g26 | 25 => g25 | 31 => g31 | 32 => g32 | 73 => g73 | 75 => g75 | _ => fun _ => .bad, 1000⟩
def g76 (ds : List D) : RF := den h76 [.sh] 9 i76 ds
theorem c76 {f : Addr} {fd : FuncData} (F : Fun K "law" "law" s76 f fd) (T : Txt mg) (TE : TxE K mg cl) (d26 : Cal P w K mg base cl 1 "_law_store" ⟨[.sh], .ow⟩ g26) (d25 : Cal P w K mg base cl 1 "_law_cell" ⟨[.sh, .sh], .im⟩ g25) (d31 : Cal P w K mg base cl 3 "_law_land" ⟨[.ow], .sh⟩ g31) (d32 : Cal P w K mg base cl 1 "_law_copy" ⟨[.sh], .ow⟩ g32) (d73 : Cal P w K mg base cl 2 "_law_no_land" ⟨[.ow, .sh], .sh⟩ g73) (d75 : Cal P w K mg base cl 7 "_law_word" ⟨[.sh, .sh], .im⟩ g75) : FnG P w K mg base 8 f fd ["script"] (spOf K cl ⟨[.sh], .im⟩ g76) := by
  refine ok_fn (x := "law") (qual := "law") (N := ["script", "at", "store", "land", "handed", "turn", "bad", "kept", "door"]) (ks := [.sh, .im, .ow, .sh, .sh, .im, .sh, .sh, .im]) (ir := i76) (φ := h76) (lv := 7) F ⟨rfl, rfl, rfl, by decide +kernel, rfl, by decide +kernel, by decide +kernel⟩ rfl rfl rfl (fun _ => rfl) (.inl rfl) (fun cdv A outer s H E hr tk px nd hu gd => ?_)
  exact ⟨_, _, (ss_cons (y_forr px (y_r1 T.b_range (y_a (y_bi .min2 T.b_min (y_a (y_bi .max2 T.b_max (y_a (y_bi .len T.b_len (y_a (y_v 0) sa_nil)) (y_a snd_int sa_nil))) (y_a snd_int sa_nil))) sa_nil)) (y_gn nd 1 false) (ss_cons (y_asg nd 2 (y_call 26 d26 gd (hr.mono (by decide)) (passAt tk) (y_c (y_call 25 d25 gd (hr.mono (by decide)) (passAt tk) (y_c (y_v 0) (y_c (y_v 1) sc_nil))) sc_nil)))
      (ss_cons (y_asg nd 3 (y_call 31 d31 gd (hr.mono (by decide)) (passAt tk) (y_io 2 sc_nil)))
      (ss_cons (y_asg nd 4 (SndE.frz rfl (y_call 32 d32 gd (hr.mono (by decide)) (passAt tk) (y_c (y_v 3) sc_nil))))
      (ss_cons (y_forr px (y_r1 T.b_range (y_a snd_int sa_nil)) (y_gn nd 5 false) (ss_cons (y_asg nd 6 (y_call 73 d73 gd (hr.mono (by decide)) (passAt tk) (y_io 2 (y_c (y_v 3) sc_nil))))
      (ss_cons (y_asg nd 7 (y_rpr gd hr T.b_repr (y_v 6)))
      (ss_cons (y_forr px (y_r1 T.b_range (y_a snd_int sa_nil)) (y_gn nd 8 false) (ss_cons (snd_ite (SndW.toT (sw_or (y_cmpT hu .ne (y_call 75 d75 gd (hr.mono (by decide)) (passAt tk) (y_c (y_v 8) (y_c (y_v 6) sc_nil))) snd_str) (sw_or1 (y_cmpT hu .ne (y_call 75 d75 gd (hr.mono (by decide)) (passAt tk) (y_c (y_v 8) (y_c (y_v 4) sc_nil))) snd_str)))) (ss_cons (y_ret snd_bl)
      ss_nil) ss_nil)
      ss_nil))
      (ss_cons (snd_ite (SndW.toT (sw_or (y_cmpT hu .ne (y_rpr gd hr T.b_repr (y_v 6)) (y_v 7)) (sw_or1 (y_cmpT hu .ne (y_v 4) (y_v 3))))) (ss_cons (y_ret snd_bl)
      ss_nil) ss_nil)
      ss_nil)))))
      ss_nil)))))
      (ss_cons (y_ret snd_bl)
      ss_nil)), rfl⟩
end
/-! the head -/
theorem all_mk {P : Program} {w : World} {K : PySem.W.Frag} {h : Heap} {mg : Str → Option Value} {e0 e1 e2 e3 e4 e5 e6 e7 e8 : Addr} {fa f0 f1 f2 f3 f4 f5 f24 f37 f25 f26 f27 f28 f29 f30 f31 f32 f73 f74 f75 f76 : Addr} (X : K.In h) (G : h.Ns mainGlobals mg) (hfa : mg "law" = some (.ref fa)) {od0 an0 : Option Addr} {sl0 : Array (Option Value)} {oc0 kV0 dc0 pm0 cd0 ct0 : Value} {od1 an1 : Option Addr} {sl1 : Array (Option Value)} {oc1 kV1 dc1 pm1 cd1 ct1 : Value} {od2 an2 : Option Addr} {sl2 : Array (Option Value)} {oc2 kV2 dc2 pm2 cd2 ct2 : Value} {od3 an3 : Option Addr} {sl3 : Array (Option Value)} {oc3 kV3 dc3 pm3 cd3 ct3 : Value} {od4 an4 : Option Addr} {sl4 : Array (Option Value)} {oc4 kV4 dc4 pm4 cd4 ct4 : Value} {od5 an5 : Option Addr} {sl5 : Array (Option Value)} {oc5 kV5 dc5 pm5 cd5 ct5 : Value} {od24 an24 : Option Addr} {sl24 : Array (Option Value)} {oc24 kV24 dc24 pm24 cd24 ct24 : Value} {od37 an37 : Option Addr} {sl37 : Array (Option Value)} {oc37 kV37 dc37 pm37 cd37 ct37 : Value} {od25 an25 : Option Addr} {sl25 : Array (Option Value)} {oc25 kV25 dc25 pm25 cd25 ct25 : Value} {od26 an26 : Option Addr} {sl26 : Array (Option Value)} {oc26 kV26 dc26 pm26 cd26 ct26 : Value} {od27 an27 : Option Addr} {sl27 : Array (Option Value)} {oc27 kV27 dc27 pm27 cd27 ct27 : Value} {od28 an28 : Option Addr} {sl28 : Array (Option Value)} {oc28 kV28 dc28 pm28 cd28 ct28 : Value} {od29 an29 : Option Addr} {sl29 : Array (Option Value)} {oc29 kV29 dc29 pm29 cd29 ct29 : Value} {od30 an30 : Option Addr} {sl30 : Array (Option Value)} {oc30 kV30 dc30 pm30 cd30 ct30 : Value} {od31 an31 : Option Addr} {sl31 : Array (Option Value)} {oc31 kV31 dc31 pm31 cd31 ct31 : Value} {od32 an32 : Option Addr} {sl32 : Array (Option Value)} {oc32 kV32 dc32 pm32 cd32 ct32 : Value} {od73 an73 : Option Addr} {sl73 : Array (Option Value)} {oc73 kV73 dc73 pm73 cd73 ct73 : Value} {od74 an74 : Option Addr} {sl74 : Array (Option Value)} {oc74 kV74 dc74 pm74 cd74 ct74 : Value} {od75 an75 : Option Addr} {sl75 : Array (Option Value)} {oc75 kV75 dc75 pm75 cd75 ct75 : Value} {od76 an76 : Option Addr} {sl76 : Array (Option Value)} {oc76 kV76 dc76 pm76 cd76 ct76 : Value}
    (y0 : PySem.W.nsIn K mainGlobals "ClimbError" = some (some (.ref e0)))
    (y1 : PySem.W.nsIn K mainGlobals "NoLand" = some (some (.ref e1)))
    (y2 : PySem.W.nsIn K mainGlobals "NoCell" = some (some (.ref e2)))
    (y3 : PySem.W.nsIn K mainGlobals "NoNumber" = some (some (.ref e3)))
    (y4 : PySem.W.nsIn K mainGlobals "NoWay" = some (some (.ref e4)))
    (y5 : PySem.W.nsIn K mainGlobals "NoWeights" = some (some (.ref e5)))
    (y6 : PySem.W.nsIn K mainGlobals "NoText" = some (some (.ref e6)))
    (y7 : PySem.W.nsIn K mainGlobals "NoName" = some (some (.ref e7)))
    (y8 : PySem.W.nsIn K mainGlobals "NoRow" = some (some (.ref e8)))
    (xd0 : PySem.W.hasDictIn K e0 = true)
    (xt0 : PySem.W.typeIn K (.ref e0) = some (.type "type"))
    (xd1 : PySem.W.hasDictIn K e1 = true)
    (xt1 : PySem.W.typeIn K (.ref e1) = some (.type "type"))
    (xd2 : PySem.W.hasDictIn K e2 = true)
    (xt2 : PySem.W.typeIn K (.ref e2) = some (.type "type"))
    (xd3 : PySem.W.hasDictIn K e3 = true)
    (xt3 : PySem.W.typeIn K (.ref e3) = some (.type "type"))
    (xd4 : PySem.W.hasDictIn K e4 = true)
    (xt4 : PySem.W.typeIn K (.ref e4) = some (.type "type"))
    (xd5 : PySem.W.hasDictIn K e5 = true)
    (xt5 : PySem.W.typeIn K (.ref e5) = some (.type "type"))
    (xd6 : PySem.W.hasDictIn K e6 = true)
    (xt6 : PySem.W.typeIn K (.ref e6) = some (.type "type"))
    (xd7 : PySem.W.hasDictIn K e7 = true)
    (xt7 : PySem.W.typeIn K (.ref e7) = some (.type "type"))
    (xd8 : PySem.W.hasDictIn K e8 = true)
    (xt8 : PySem.W.typeIn K (.ref e8) = some (.type "type"))
    (xb0 : PySem.W.subIn K (.ref e0) (.type "BaseException") = some true)
    (xo1 : PySem.W.specialIn K (.builtin "object.__class__") "__get__" = some (some (.builtin "getset_descriptor.__get__")))
    (xo2 : PySem.W.takesIn K (.builtin "object.__class__") = some true)
    (xb1 : PySem.W.subIn K (.ref e1) (.type "BaseException") = some true)
    (xx1 : PySem.W.excIn K e1 [.type "ValueError", .type "Exception", .type "BaseException", .type "object"] "ValueError.__new__" = true)
    (xk1 : PySem.W.keepIn K (.ref e1) = true)
    (xg1 : PySem.W.findIn K (.ref e1) "__getattribute__" = some (some (.builtin "BaseException.__getattribute__")))
    (xh1 : PySem.W.findIn K (.ref e1) "__getattr__" = some none)
    (xa1 : PySem.W.findIn K (.ref e1) "__class__" = some (some (.builtin "object.__class__")))
    (xm1 : PySem.W.mroIn K e1 (.type "object") = some true)
    (xs1_0 : PySem.W.subIn K (.ref e1) (.ref e0) = some true)
    (xn1_0 : e1 ≠ e0)
    (xs1_2 : PySem.W.subIn K (.ref e1) (.ref e2) = some false)
    (xn1_2 : e1 ≠ e2)
    (xs1_3 : PySem.W.subIn K (.ref e1) (.ref e3) = some false)
    (xn1_3 : e1 ≠ e3)
    (xs1_4 : PySem.W.subIn K (.ref e1) (.ref e4) = some false)
    (xn1_4 : e1 ≠ e4)
    (xs1_5 : PySem.W.subIn K (.ref e1) (.ref e5) = some false)
    (xn1_5 : e1 ≠ e5)
    (xs1_6 : PySem.W.subIn K (.ref e1) (.ref e6) = some false)
    (xn1_6 : e1 ≠ e6)
    (xs1_7 : PySem.W.subIn K (.ref e1) (.ref e7) = some false)
    (xn1_7 : e1 ≠ e7)
    (xs1_8 : PySem.W.subIn K (.ref e1) (.ref e8) = some false)
    (xn1_8 : e1 ≠ e8)
    (xv1 : PySem.W.subIn K (.ref e1) (.type "ValueError") = some true)
    (xw1 : PySem.W.subIn K (.type "NoneType") (.ref e1) = some false)
    (xw2 : PySem.W.subIn K (.type "NoneType") (.ref e2) = some false)
    (xw3 : PySem.W.subIn K (.type "NoneType") (.ref e3) = some false)
    (xw4 : PySem.W.subIn K (.type "NoneType") (.ref e4) = some false)
    (xw5 : PySem.W.subIn K (.type "NoneType") (.ref e5) = some false)
    (xw6 : PySem.W.subIn K (.type "NoneType") (.ref e6) = some false)
    (xw7 : PySem.W.subIn K (.type "NoneType") (.ref e7) = some false)
    (xw8 : PySem.W.subIn K (.type "NoneType") (.ref e8) = some false)
    (a0 : PySem.W.nsIn K mainGlobals "is_whole" = some (some (.ref f0))) (l0 : K.lookup f0 = some ⟨oc0, od0, .func (PySem.W.fnOf "is_whole" "is_whole" (defArgs s0) (defBody s0) (defScope s0) .none kV0 dc0 pm0 an0 cd0 ct0), sl0⟩) (c0_ : PySem.W.codeIn K cd0 "is_whole" = true) (k0 : PySem.W.keepIn K (.ref f0) = true)
    (a1 : PySem.W.nsIn K mainGlobals "is_table" = some (some (.ref f1))) (l1 : K.lookup f1 = some ⟨oc1, od1, .func (PySem.W.fnOf "is_table" "is_table" (defArgs s1) (defBody s1) (defScope s1) .none kV1 dc1 pm1 an1 cd1 ct1), sl1⟩) (c1_ : PySem.W.codeIn K cd1 "is_table" = true) (k1 : PySem.W.keepIn K (.ref f1) = true)
    (a2 : PySem.W.nsIn K mainGlobals "is_move" = some (some (.ref f2))) (l2 : K.lookup f2 = some ⟨oc2, od2, .func (PySem.W.fnOf "is_move" "is_move" (defArgs s2) (defBody s2) (defScope s2) .none kV2 dc2 pm2 an2 cd2 ct2), sl2⟩) (c2_ : PySem.W.codeIn K cd2 "is_move" = true) (k2 : PySem.W.keepIn K (.ref f2) = true)
    (a3 : PySem.W.nsIn K mainGlobals "are_moves" = some (some (.ref f3))) (l3 : K.lookup f3 = some ⟨oc3, od3, .func (PySem.W.fnOf "are_moves" "are_moves" (defArgs s3) (defBody s3) (defScope s3) .none kV3 dc3 pm3 an3 cd3 ct3), sl3⟩) (c3_ : PySem.W.codeIn K cd3 "are_moves" = true) (k3 : PySem.W.keepIn K (.ref f3) = true)
    (a4 : PySem.W.nsIn K mainGlobals "is_land" = some (some (.ref f4))) (l4 : K.lookup f4 = some ⟨oc4, od4, .func (PySem.W.fnOf "is_land" "is_land" (defArgs s4) (defBody s4) (defScope s4) .none kV4 dc4 pm4 an4 cd4 ct4), sl4⟩) (c4_ : PySem.W.codeIn K cd4 "is_land" = true) (k4 : PySem.W.keepIn K (.ref f4) = true)
    (a5 : PySem.W.nsIn K mainGlobals "need_land" = some (some (.ref f5))) (l5 : K.lookup f5 = some ⟨oc5, od5, .func (PySem.W.fnOf "need_land" "need_land" (defArgs s5) (defBody s5) (defScope s5) .none kV5 dc5 pm5 an5 cd5 ct5), sl5⟩) (c5_ : PySem.W.codeIn K cd5 "need_land" = true) (k5 : PySem.W.keepIn K (.ref f5) = true)
    (a24 : PySem.W.nsIn K mainGlobals "turned_about" = some (some (.ref f24))) (l24 : K.lookup f24 = some ⟨oc24, od24, .func (PySem.W.fnOf "turned_about" "turned_about" (defArgs s24) (defBody s24) (defScope s24) .none kV24 dc24 pm24 an24 cd24 ct24), sl24⟩) (c24_ : PySem.W.codeIn K cd24 "turned_about" = true) (k24 : PySem.W.keepIn K (.ref f24) = true)
    (a37 : PySem.W.nsIn K mainGlobals "laid_over" = some (some (.ref f37))) (l37 : K.lookup f37 = some ⟨oc37, od37, .func (PySem.W.fnOf "laid_over" "laid_over" (defArgs s37) (defBody s37) (defScope s37) .none kV37 dc37 pm37 an37 cd37 ct37), sl37⟩) (c37_ : PySem.W.codeIn K cd37 "laid_over" = true) (k37 : PySem.W.keepIn K (.ref f37) = true)
    (a25 : PySem.W.nsIn K mainGlobals "_law_cell" = some (some (.ref f25))) (l25 : K.lookup f25 = some ⟨oc25, od25, .func (PySem.W.fnOf "_law_cell" "_law_cell" (defArgs s25) (defBody s25) (defScope s25) .none kV25 dc25 pm25 an25 cd25 ct25), sl25⟩) (c25_ : PySem.W.codeIn K cd25 "_law_cell" = true) (k25 : PySem.W.keepIn K (.ref f25) = true)
    (a26 : PySem.W.nsIn K mainGlobals "_law_store" = some (some (.ref f26))) (l26 : K.lookup f26 = some ⟨oc26, od26, .func (PySem.W.fnOf "_law_store" "_law_store" (defArgs s26) (defBody s26) (defScope s26) .none kV26 dc26 pm26 an26 cd26 ct26), sl26⟩) (c26_ : PySem.W.codeIn K cd26 "_law_store" = true) (k26 : PySem.W.keepIn K (.ref f26) = true)
    (a27 : PySem.W.nsIn K mainGlobals "_law_take" = some (some (.ref f27))) (l27 : K.lookup f27 = some ⟨oc27, od27, .func (PySem.W.fnOf "_law_take" "_law_take" (defArgs s27) (defBody s27) (defScope s27) .none kV27 dc27 pm27 an27 cd27 ct27), sl27⟩) (c27_ : PySem.W.codeIn K cd27 "_law_take" = true) (k27 : PySem.W.keepIn K (.ref f27) = true)
    (a28 : PySem.W.nsIn K mainGlobals "_law_moves" = some (some (.ref f28))) (l28 : K.lookup f28 = some ⟨oc28, od28, .func (PySem.W.fnOf "_law_moves" "_law_moves" (defArgs s28) (defBody s28) (defScope s28) .none kV28 dc28 pm28 an28 cd28 ct28), sl28⟩) (c28_ : PySem.W.codeIn K cd28 "_law_moves" = true) (k28 : PySem.W.keepIn K (.ref f28) = true)
    (a29 : PySem.W.nsIn K mainGlobals "_law_chain" = some (some (.ref f29))) (l29 : K.lookup f29 = some ⟨oc29, od29, .func (PySem.W.fnOf "_law_chain" "_law_chain" (defArgs s29) (defBody s29) (defScope s29) .none kV29 dc29 pm29 an29 cd29 ct29), sl29⟩) (c29_ : PySem.W.codeIn K cd29 "_law_chain" = true) (k29 : PySem.W.keepIn K (.ref f29) = true)
    (a30 : PySem.W.nsIn K mainGlobals "_law_table" = some (some (.ref f30))) (l30 : K.lookup f30 = some ⟨oc30, od30, .func (PySem.W.fnOf "_law_table" "_law_table" (defArgs s30) (defBody s30) (defScope s30) .none kV30 dc30 pm30 an30 cd30 ct30), sl30⟩) (c30_ : PySem.W.codeIn K cd30 "_law_table" = true) (k30 : PySem.W.keepIn K (.ref f30) = true)
    (a31 : PySem.W.nsIn K mainGlobals "_law_land" = some (some (.ref f31))) (l31 : K.lookup f31 = some ⟨oc31, od31, .func (PySem.W.fnOf "_law_land" "_law_land" (defArgs s31) (defBody s31) (defScope s31) .none kV31 dc31 pm31 an31 cd31 ct31), sl31⟩) (c31_ : PySem.W.codeIn K cd31 "_law_land" = true) (k31 : PySem.W.keepIn K (.ref f31) = true)
    (a32 : PySem.W.nsIn K mainGlobals "_law_copy" = some (some (.ref f32))) (l32 : K.lookup f32 = some ⟨oc32, od32, .func (PySem.W.fnOf "_law_copy" "_law_copy" (defArgs s32) (defBody s32) (defScope s32) .none kV32 dc32 pm32 an32 cd32 ct32), sl32⟩) (c32_ : PySem.W.codeIn K cd32 "_law_copy" = true) (k32 : PySem.W.keepIn K (.ref f32) = true)
    (a73 : PySem.W.nsIn K mainGlobals "_law_no_land" = some (some (.ref f73))) (l73 : K.lookup f73 = some ⟨oc73, od73, .func (PySem.W.fnOf "_law_no_land" "_law_no_land" (defArgs s73) (defBody s73) (defScope s73) .none kV73 dc73 pm73 an73 cd73 ct73), sl73⟩) (c73_ : PySem.W.codeIn K cd73 "_law_no_land" = true) (k73 : PySem.W.keepIn K (.ref f73) = true)
    (a74 : PySem.W.nsIn K mainGlobals "_law_kind" = some (some (.ref f74))) (l74 : K.lookup f74 = some ⟨oc74, od74, .func (PySem.W.fnOf "_law_kind" "_law_kind" (defArgs s74) (defBody s74) (defScope s74) .none kV74 dc74 pm74 an74 cd74 ct74), sl74⟩) (c74_ : PySem.W.codeIn K cd74 "_law_kind" = true) (k74 : PySem.W.keepIn K (.ref f74) = true)
    (a75 : PySem.W.nsIn K mainGlobals "_law_word" = some (some (.ref f75))) (l75 : K.lookup f75 = some ⟨oc75, od75, .func (PySem.W.fnOf "_law_word" "_law_word" (defArgs s75) (defBody s75) (defScope s75) .none kV75 dc75 pm75 an75 cd75 ct75), sl75⟩) (c75_ : PySem.W.codeIn K cd75 "_law_word" = true) (k75 : PySem.W.keepIn K (.ref f75) = true)
    (a76 : PySem.W.nsIn K mainGlobals "law" = some (some (.ref f76))) (l76 : K.lookup f76 = some ⟨oc76, od76, .func (PySem.W.fnOf "law" "law" (defArgs s76) (defBody s76) (defScope s76) .none kV76 dc76 pm76 an76 cd76 ct76), sl76⟩) (c76_ : PySem.W.codeIn K cd76 "law" = true) (k76 : PySem.W.keepIn K (.ref f76) = true)
    (z_ValueError : PySem.W.nsIn K mainGlobals "ValueError" = some none)
    (z_abs : PySem.W.nsIn K mainGlobals "abs" = some none)
    (z_bool : PySem.W.nsIn K mainGlobals "bool" = some none)
    (z_enumerate : PySem.W.nsIn K mainGlobals "enumerate" = some none)
    (z_int : PySem.W.nsIn K mainGlobals "int" = some none)
    (z_isinstance : PySem.W.nsIn K mainGlobals "isinstance" = some none)
    (z_len : PySem.W.nsIn K mainGlobals "len" = some none)
    (z_list : PySem.W.nsIn K mainGlobals "list" = some none)
    (z_max : PySem.W.nsIn K mainGlobals "max" = some none)
    (z_min : PySem.W.nsIn K mainGlobals "min" = some none)
    (z_range : PySem.W.nsIn K mainGlobals "range" = some none)
    (z_repr : PySem.W.nsIn K mainGlobals "repr" = some none)
    (z_sorted : PySem.W.nsIn K mainGlobals "sorted" = some none)
    (z_tuple : PySem.W.nsIn K mainGlobals "tuple" = some none)
    (z_zip : PySem.W.nsIn K mainGlobals "zip" = some none)
    {t_FARTHEST : Tok} (n_FARTHEST : PySem.W.nsIn K mainGlobals "FARTHEST" = some (some (.int 5 t_FARTHEST)))
    {t_MOST_MOVES : Tok} (n_MOST_MOVES : PySem.W.nsIn K mainGlobals "MOST_MOVES" = some (some (.int 8 t_MOST_MOVES)))
    {t_MOST_WIDE : Tok} (n_MOST_WIDE : PySem.W.nsIn K mainGlobals "MOST_WIDE" = some (some (.int 6 t_MOST_WIDE))) :
    ∃ fd : FuncData, (∀ (s : Shared) (v : Value), BindsTo s fd ⟨[v], []⟩ [("script", v)]) ∧ ∀ base : Heap, K.In base → base.Ns mainGlobals mg → FnG P w K mg base 8 fa fd ["script"] (spOf K (exCl [e0, e1, e2, e3, e4, e5, e6, e7, e8]) ⟨[.sh], .im⟩ g76) := by
  have e := hfa.symm.trans (PySem.W.mg_of X G a76)
  cases e
  have T : Txt mg := ⟨PySem.W.mg_none_of X G z_ValueError, PySem.W.mg_none_of X G z_abs, PySem.W.mg_none_of X G z_bool, PySem.W.mg_none_of X G z_enumerate, PySem.W.mg_none_of X G z_int, PySem.W.mg_none_of X G z_isinstance, PySem.W.mg_none_of X G z_len, PySem.W.mg_none_of X G z_list, PySem.W.mg_none_of X G z_max, PySem.W.mg_none_of X G z_min, PySem.W.mg_none_of X G z_range, PySem.W.mg_none_of X G z_repr, PySem.W.mg_none_of X G z_sorted, PySem.W.mg_none_of X G z_tuple, PySem.W.mg_none_of X G z_zip, ⟨_, PySem.W.mg_of X G n_FARTHEST⟩, ⟨_, PySem.W.mg_of X G n_MOST_MOVES⟩, ⟨_, PySem.W.mg_of X G n_MOST_WIDE⟩⟩
  have TE : TxE K mg (exCl [e0, e1, e2, e3, e4, e5, e6, e7, e8]) := ⟨PySem.W.mg_of X G y0, ⟨PySem.W.mg_of X G y1, y1, xx1, xk1, xb1, xt1, ⟨xg1, xh1, xb1, xd1, xa1, xo1, xo2, xm1⟩, PySem.W.exm_ref xb0 xd0 xt0 xs1_0⟩, ⟨PySem.W.mg_of X G y1, kit_ref xd1 xt1 xw1 (fun z => nomatch z)⟩, ⟨PySem.W.mg_of X G y2, kit_ref xd2 xt2 xw2 (fun z => nomatch z)⟩, ⟨PySem.W.mg_of X G y3, kit_ref xd3 xt3 xw3 (fun z => nomatch z)⟩, ⟨PySem.W.mg_of X G y4, kit_ref xd4 xt4 xw4 (fun z => nomatch z)⟩, ⟨PySem.W.mg_of X G y5, kit_ref xd5 xt5 xw5 (fun z => nomatch z)⟩, ⟨PySem.W.mg_of X G y6, kit_ref xd6 xt6 xw6 (fun z => nomatch z)⟩, ⟨PySem.W.mg_of X G y7, kit_ref xd7 xt7 xw7 (fun z => nomatch z)⟩, ⟨PySem.W.mg_of X G y8, kit_ref xd8 xt8 xw8 (fun z => nomatch z)⟩, kit_self, kit_ref xd2 xt2 xs1_2 (ne_refs xn1_2), kit_ref xd3 xt3 xs1_3 (ne_refs xn1_3), kit_ref xd4 xt4 xs1_4 (ne_refs xn1_4), kit_ref xd5 xt5 xs1_5 (ne_refs xn1_5), kit_ref xd6 xt6 xs1_6 (ne_refs xn1_6), kit_ref xd7 xt7 xs1_7 (ne_refs xn1_7), kit_ref xd8 xt8 xs1_8 (ne_refs xn1_8), kit_ve xv1⟩
  refine ⟨PySem.W.fnOf "law" "law" (defArgs s76) (defBody s76) (defScope s76) .none kV76 dc76 pm76 an76 cd76 ct76, fun s v => .of_eq rfl, fun base _ _ => ?_⟩
  have d0 : Cal P w K mg base (exCl [e0, e1, e2, e3, e4, e5, e6, e7, e8]) 1 "is_whole" ⟨[.sh], .im⟩ g0 := c0 (fun_mk (st := s0) l0 c0_ k0) (PySem.W.mg_of X G a0) T TE 
  have d1 : Cal P w K mg base (exCl [e0, e1, e2, e3, e4, e5, e6, e7, e8]) 2 "is_table" ⟨[.sh], .im⟩ g1 := c1 (fun_mk (st := s1) l1 c1_ k1) (PySem.W.mg_of X G a1) T TE d0
  have d2 : Cal P w K mg base (exCl [e0, e1, e2, e3, e4, e5, e6, e7, e8]) 2 "is_move" ⟨[.sh], .im⟩ g2 := c2 (fun_mk (st := s2) l2 c2_ k2) (PySem.W.mg_of X G a2) T TE d0
  have d3 : Cal P w K mg base (exCl [e0, e1, e2, e3, e4, e5, e6, e7, e8]) 3 "are_moves" ⟨[.sh], .im⟩ g3 := c3 (fun_mk (st := s3) l3 c3_ k3) (PySem.W.mg_of X G a3) T TE d2
  have d4 : Cal P w K mg base (exCl [e0, e1, e2, e3, e4, e5, e6, e7, e8]) 4 "is_land" ⟨[.sh], .im⟩ g4 := c4 (fun_mk (st := s4) l4 c4_ k4) (PySem.W.mg_of X G a4) T TE d1 d3
  have d5 : Cal P w K mg base (exCl [e0, e1, e2, e3, e4, e5, e6, e7, e8]) 5 "need_land" ⟨[.sh], .im⟩ g5 := c5 (fun_mk (st := s5) l5 c5_ k5) (PySem.W.mg_of X G a5) T TE d4
  have d24 : Cal P w K mg base (exCl [e0, e1, e2, e3, e4, e5, e6, e7, e8]) 6 "turned_about" ⟨[.sh], .ow⟩ g24 := c24 (fun_mk (st := s24) l24 c24_ k24) (PySem.W.mg_of X G a24) T TE d5
  have d37 : Cal P w K mg base (exCl [e0, e1, e2, e3, e4, e5, e6, e7, e8]) 6 "laid_over" ⟨[.sh], .ow⟩ g37 := c37 (fun_mk (st := s37) l37 c37_ k37) (PySem.W.mg_of X G a37) T TE d5
  have d25 : Cal P w K mg base (exCl [e0, e1, e2, e3, e4, e5, e6, e7, e8]) 1 "_law_cell" ⟨[.sh, .sh], .im⟩ g25 := c25 (fun_mk (st := s25) l25 c25_ k25) (PySem.W.mg_of X G a25) T TE 
  have d26 : Cal P w K mg base (exCl [e0, e1, e2, e3, e4, e5, e6, e7, e8]) 1 "_law_store" ⟨[.sh], .ow⟩ g26 := c26 (fun_mk (st := s26) l26 c26_ k26) (PySem.W.mg_of X G a26) T TE 
  have d27 : Cal P w K mg base (exCl [e0, e1, e2, e3, e4, e5, e6, e7, e8]) 1 "_law_take" ⟨[.ow, .sh], .im⟩ g27 := c27 (fun_mk (st := s27) l27 c27_ k27) (PySem.W.mg_of X G a27) T TE 
  have d28 : Cal P w K mg base (exCl [e0, e1, e2, e3, e4, e5, e6, e7, e8]) 2 "_law_moves" ⟨[.ow, .sh], .ow⟩ g28 := c28 (fun_mk (st := s28) l28 c28_ k28) (PySem.W.mg_of X G a28) T TE d27
  have d29 : Cal P w K mg base (exCl [e0, e1, e2, e3, e4, e5, e6, e7, e8]) 1 "_law_chain" ⟨[.sh, .sh], .sh⟩ g29 := c29 (fun_mk (st := s29) l29 c29_ k29) (PySem.W.mg_of X G a29) T TE 
  have d30 : Cal P w K mg base (exCl [e0, e1, e2, e3, e4, e5, e6, e7, e8]) 2 "_law_table" ⟨[.ow, .sh, .sh], .sh⟩ g30 := c30 (fun_mk (st := s30) l30 c30_ k30) (PySem.W.mg_of X G a30) T TE d27 d29
  have d31 : Cal P w K mg base (exCl [e0, e1, e2, e3, e4, e5, e6, e7, e8]) 3 "_law_land" ⟨[.ow], .sh⟩ g31 := c31 (fun_mk (st := s31) l31 c31_ k31) (PySem.W.mg_of X G a31) T TE d27 d30 d28
  have d32 : Cal P w K mg base (exCl [e0, e1, e2, e3, e4, e5, e6, e7, e8]) 1 "_law_copy" ⟨[.sh], .ow⟩ g32 := c32 (fun_mk (st := s32) l32 c32_ k32) (PySem.W.mg_of X G a32) T TE 
  have d73 : Cal P w K mg base (exCl [e0, e1, e2, e3, e4, e5, e6, e7, e8]) 2 "_law_no_land" ⟨[.ow, .sh], .sh⟩ g73 := c73 (fun_mk (st := s73) l73 c73_ k73) (PySem.W.mg_of X G a73) T TE d27
  have d74 : Cal P w K mg base (exCl [e0, e1, e2, e3, e4, e5, e6, e7, e8]) 1 "_law_kind" ⟨[.sh, .sh], .im⟩ g74 := c74 (fun_mk (st := s74) l74 c74_ k74) (PySem.W.mg_of X G a74) T TE 
  have d75 : Cal P w K mg base (exCl [e0, e1, e2, e3, e4, e5, e6, e7, e8]) 7 "_law_word" ⟨[.sh, .sh], .im⟩ g75 := c75 (fun_mk (st := s75) l75 c75_ k75) (PySem.W.mg_of X G a75) T TE d24 d37 d74
  exact c76 (fun_mk (st := s76) l76 c76_ k76) T TE d26 d25 d31 d32 d73 d75
end
end CWL
namespace CWL
open PySem L2 CW
theorem v0 (i : Int) : g0 [.int i] = .ok (.bl true) [.int i] := by
  simp [g0, den, i0, outsOf]
theorem v2 {a b : Int} (h1 : -5 ≤ a ∧ a ≤ 5) (h2_ : -5 ≤ b ∧ b ≤ 5) (h3 : ¬ (a = 0 ∧ b = 0)) : g2 [.tup [.int a, .int b]] = .ok (.bl true) [.tup [.int a, .int b]] := by
  have p1 : (if a < 0 then -a else a) ≤ 5 := by split <;> omega
  have p2 : (if b < 0 then -b else b) ≤ 5 := by split <;> omega
  have ok : eqOk (.tup [.int a, .int b]) (.tup [.int 0, .int 0]) = true := by simp [eqOk, D.shp]
  simp [g2, den, i2, outsOf, h2, v0, putP, p1, p2, ok]
  omega
theorem v1 {rows : List (List Int)} {wd : Nat} (h1_ : 1 ≤ rows.length ∧ rows.length ≤ 6) (h2 : 1 ≤ wd ∧ wd ≤ 6) (h3 : ∀ r ∈ rows, r.length = wd) : g1 [tabD rows] = .ok (.bl true) [tabD rows] := by
  have l1 : (1 : Int) ≤ rows.length ∧ (rows.length : Int) ≤ 6 := by omega
  obtain ⟨r0, hr0⟩ : ∃ r0, rows[0]? = some r0 := ⟨_, List.getElem?_eq_getElem (by omega)⟩
  have hr0l := h3 r0 (List.mem_of_getElem? hr0)
  simp [g1, den, i1, outsOf, tabD, l1, itemsOf]
  generalize hF : forL _ _ _ = r
  obtain ⟨Γ', rfl, x, y, rfl⟩ : ∃ Γ', r = .nx Γ' ∧ ∃ x y, Γ' = [some (.lst (rows.map fun r => .lst (r.map .int))), x, y] := by
    rw [← hF]
    refine forL_inv (fun _ Γ => ∃ x y, Γ = [some (.lst (rows.map fun r => .lst (r.map .int))), x, y]) (k := 0) (fun i d Γ hd ⟨x, y, hΓ⟩ => ?_) ⟨_, _, rfl⟩
    subst hΓ
    rw [List.getElem?_map] at hd
    obtain ⟨row, hrow, rfl⟩ := Option.map_eq_some_iff.mp hd
    have hl := h3 row (List.mem_of_getElem? hrow)
    have l2 : (1 : Int) ≤ wd ∧ (wd : Int) ≤ 6 := by omega
    have eo : eqOk (.int wd) (.int wd) = true := rfl
    rw [turn_nm (by rfl)]
    simp [Bi.sem, hr0, hl, hr0l, l2, itemsOf]
    generalize hC : compL _ _ _ _ = q
    obtain ⟨ys, Γ', rfl, rfl, z, rfl⟩ : ∃ ys Γ', q = .ok ys Γ' ∧ ys = [] ∧ ∃ z, Γ' = [some (.lst (rows.map fun r => .lst (r.map .int))), some (.lst (row.map .int)), z] := by
      rw [← hC]
      refine comp_inv (fun _ ys Γ => ys = [] ∧ ∃ z, Γ = [some (.lst (rows.map fun r => .lst (r.map .int))), some (.lst (row.map .int)), z]) (k := 0) (fun i d ys Γ hd ⟨hy, z, hΓ⟩ => ?_) ⟨rfl, _, rfl⟩
      subst hy
      subst hΓ
      obtain ⟨n, rfl⟩ := ints_row hd
      rw [compT_nm (by rfl)]
      refine ⟨none, [some (.lst (rows.map fun r => .lst (r.map .int))), some (.lst (row.map .int)), some (.int n)], ?_, rfl, _, rfl⟩
      simp [h1, v0]
    simp [eqOk, D.shp]
  simp
theorem v3a {ps : List (Int × Int)} (h : ∀ p ∈ ps, okM p) {a b c : Option D} : ∃ z, compL (compT h3 [1] (.nm 1 false) (some (.not (.call 2 [.var 1] []))) (.var 1)) (ps.map pairD) [] [a, b, c] = .ok [] [a, z, c] := by
  obtain ⟨Γ', e, z, rfl⟩ := comp_filt (T := compT h3 [1] (.nm 1 false) (some (.not (.call 2 [.var 1] []))) (.var 1)) (fun _ Γ => ∃ z, Γ = [a, z, c]) (fun _ => none) (ds := ps.map pairD) (acc := []) (k := 0) (Γ := [a, b, c]) (fun i d Γ hd ⟨z, hΓ⟩ => by
    subst hΓ
    obtain ⟨p, hp, rfl⟩ := pair_at hd
    obtain ⟨o1, o2, o3⟩ := h p (List.mem_of_getElem? hp)
    have e := v2 o1 o2 o3
    refine ⟨[a, some (pairD p), c], ?_, _, rfl⟩
    rw [compT_nm (by rfl)]
    simp [h3, pairD, e]) ⟨_, rfl⟩
  refine ⟨z, ?_⟩
  rw [e, filterMap_none (fun _ _ => rfl)]
  rfl
theorem v3b {ps : List (Int × Int)} (h : ps.Pairwise ltM) {b c : Option D} : ∃ z, compL (compT h3 [2] (.nm 2 false) (some (.cmp .ge (.ix (.var 0) (.bin .sub (.var 2) (.cn (.int 1)))) (.ix (.var 0) (.var 2)))) (.var 2)) (rngL 1 (ps.length - 1)) [] [some (movD ps), b, c] = .ok [] [some (movD ps), b, z] := by
  obtain ⟨Γ', e, z, rfl⟩ := comp_filt (T := compT h3 [2] (.nm 2 false) (some (.cmp .ge (.ix (.var 0) (.bin .sub (.var 2) (.cn (.int 1)))) (.ix (.var 0) (.var 2)))) (.var 2)) (fun _ Γ => ∃ z, Γ = [some (movD ps), b, z]) (fun _ => none) (ds := rngL 1 (ps.length - 1)) (acc := []) (k := 0) (Γ := [some (movD ps), b, c]) (fun i d Γ hd ⟨z, hΓ⟩ => by
    subst hΓ
    have hi : i < ps.length - 1 := by
      have := (List.getElem?_eq_some_iff.mp hd).1
      rw [rngL_len] at this
      exact this
    rw [rngL_get hi] at hd
    cases hd
    obtain ⟨p, hp⟩ : ∃ p, ps[i]? = some p := ⟨_, List.getElem?_eq_getElem (by omega)⟩
    obtain ⟨q, hq⟩ : ∃ q, ps[i + 1]? = some q := ⟨_, List.getElem?_eq_getElem (by omega)⟩
    have lt := up_next h hp hq
    refine ⟨[some (movD ps), b, some (.int (1 + i))], ?_, _, rfl⟩
    have a1 : atI (ps.map pairD) (1 + (i : Int) - 1) = some (pairD p) := by
      rw [show (1 : Int) + i - 1 = ((i : Nat) : Int) by omega, atI_nat, List.getElem?_map, hp]
      rfl
    have a2 : atI (ps.map pairD) (1 + (i : Int)) = some (pairD q) := by
      rw [show (1 : Int) + i = ((i + 1 : Nat) : Int) by omega, atI_nat, List.getElem?_map, hq]
      rfl
    have s1 := ge_up lt
    rw [compT_nm (by rfl)]
    simp [movD, a1, a2, s1]) ⟨_, rfl⟩
  refine ⟨z, ?_⟩
  rw [e, filterMap_none (fun _ _ => rfl)]
  rfl
theorem v3 {ps : List (Int × Int)} (h : MovOk ps) : g3 [movD ps] = .ok (.bl true) [movD ps] := by
  have l1 : ¬ (8 : Int) < ps.length := by have := h.len; omega
  have hr := rng1 h.len
  obtain ⟨z1, e1⟩ := v3a h.ok (a := some (movD ps)) (b := none) (c := none)
  obtain ⟨z2, e2⟩ := v3b h.up (b := none) (c := none)
  simp only [movD] at e1 e2 ⊢
  simp [g3, den, i3, outsOf, l1, itemsOf, e1, eqOk_nil, hr]
  rw [e2]
  simp [eqOk_nil]
/-- a valid land -/
theorem v4a {rows : List (List Int)} {st ju : List (Int × Int)} (hd : ∀ p ∈ st, p ∉ ju) {b : Option D} : ∃ z, compL (compT h4 [1] (.nm 1 false) (some (.cmp .isin (.var 1) (.ix (.var 0) (.cn (.int 2))))) (.var 1)) (st.map pairD) [] [some (landD rows st ju), b] = .ok [] [some (landD rows st ju), z] := by
  obtain ⟨Γ', e, z, rfl⟩ := comp_filt (T := compT h4 [1] (.nm 1 false) (some (.cmp .isin (.var 1) (.ix (.var 0) (.cn (.int 2))))) (.var 1)) (fun _ Γ => ∃ z, Γ = [some (landD rows st ju), z]) (fun _ => none) (ds := st.map pairD) (acc := []) (k := 0) (Γ := [some (landD rows st ju), b]) (fun i d Γ hd' ⟨z, hΓ⟩ => by
    subst hΓ
    obtain ⟨p, hp, rfl⟩ := pair_at hd'
    have hn := hd p (List.mem_of_getElem? hp)
    refine ⟨[some (landD rows st ju), some (pairD p)], ?_, _, rfl⟩
    have s1 : Cop.sem .isin (pairD p) (movD ju) = some false := by
      have q1 : (pairD p).shp 64 = true := shp_pair (n := 63)
      have q2 : (D.lst (ju.map pairD)).shp 64 = true := shp_mov (n := 62)
      show (if (pairD p).shp 64 && (D.lst (ju.map pairD)).shp 64 then some ((ju.map pairD).any fun z => eqD z (pairD p)) else none) = _
      rw [q1, q2]
      simp
      intro a b hm
      intro e e'
      exact hn (by rw [show p = (a, b) from Prod.ext e.symm e'.symm]; exact hm)
    rw [compT_nm (by rfl)]
    simp [landD, s1]) ⟨_, rfl⟩
  refine ⟨z, ?_⟩
  rw [e, filterMap_none (fun _ _ => rfl)]
  rfl
theorem v4 {rows : List (List Int)} {wd : Nat} {st ju : List (Int × Int)} (h : LandOk rows wd st ju) :
    g4 [landD rows st ju] = .ok (.bl true) [landD rows st ju] := by
  have e1 := v1 h.hi h.wi h.row
  have e2 := v3 h.sto
  have e3 := v3 h.juo
  obtain ⟨z, e⟩ := v4a (rows := rows) h.dj (b := none)
  have it : itemsOf false (movD st) = some (st.map pairD) := rfl
  unfold landD at e ⊢
  simp [g4, den, i4, outsOf, h4, e1, e2, e3, it]
  simp only [h4] at e
  rw [e]
  simp [eqOk_nil]
theorem v5 {rows : List (List Int)} {wd : Nat} {st ju : List (Int × Int)} (h : LandOk rows wd st ju) :
    g5 [landD rows st ju] = .ok .non [landD rows st ju] := by
  simp [g5, den, i5, outsOf, h5, v4 h]
end CWL
namespace CWL
open PySem L2 CW
def triD (p : Int × Int × Int) : D := .lst [.int p.1, .int p.2.1, .int p.2.2]
def StoreOk (d : D) : Prop := ∃ p, d = triD p
def mx1 (b c : Int) : Int := (b + 7919 * c) * 48271 % 2147483647
def mx2 (b c : Int) : Int := mx1 b c * mx1 b c % 2147483629
def mx3 (b c : Int) : Int := (mx2 b c + 40692 * c) * 69621 % 2147483587
theorem w27 {d : D} (hd : StoreOk d) {m : Int} (hm : 0 < m ∧ m < 2 ^ 128) : ∃ r d', g27 [d, .int m] = .ok (.int r) [d', .int m] ∧ StoreOk d' ∧ 0 ≤ r ∧ r < m := by
  obtain ⟨⟨a, b, c⟩, rfl⟩ := hd
  have hdv : divOk m = true := by
    rw [divOk_eq]
    unfold divOk0
    rw [decide_eq_true hm.1, decide_eq_true hm.2]
    rfl
  have d8 : divOk 8 = true := by rw [divOk_eq]; decide
  by_cases h : 0 < a
  · refine ⟨a % m, triD (a / m, b, c), ?_, ⟨_, rfl⟩, Int.emod_nonneg _ (by omega), Int.emod_lt_of_pos _ hm.1⟩
    simp [g27, den, i27, outsOf, triD, h, hm.1, hdv, ixN_of]
  · refine ⟨mx3 b (c + 1) / 8 % m, triD (a, b, c + 1), ?_, ⟨_, rfl⟩, Int.emod_nonneg _ (by omega), Int.emod_lt_of_pos _ hm.1⟩
    simp [g27, den, i27, outsOf, triD, h, hm.1, d8, ixN_of, mx1, mx2, mx3]
theorem w25 {ns : List Int} {k : Nat} (hk : k ≤ 12) : ∃ c, g25 [.scr ns, .int (k : Int)] = .ok (.int c) [.scr ns, .int (k : Int)] := by
  by_cases hc : k < ns.length
  · have ha : atD (.scr ns) (.int (k : Int)) = some (.int ns[k]) := by
      simp only [atD]
      rw [atI_nat, List.getElem?_eq_getElem hc]
      rfl
    exact ⟨ns[k], by simp [g25, den, i25, outsOf, hc, ha]⟩
  · have hm : mulOk (7 * (k : Int)) (k : Int) = true := mulOk_of2 (by omega)
    exact ⟨7 * (k : Int) * k + 3 * k + 11, by simp [g25, den, i25, outsOf, hc, hm]⟩
theorem w26 {c : Int} : ∃ d, g26 [.int c] = .ok d [.int c] ∧ StoreOk d := by
  have hp : powOk 10 18 = true := by rw [powOk_eq]; decide
  by_cases h : 10 ^ 18 ≤ c
  · have h' : (1000000000000000000 : Int) ≤ c := by simpa using h
    exact ⟨triD (c, c % 2147483629, 1), by simp [g26, den, i26, outsOf, hp, h', triD], _, rfl⟩
  · have h' : ¬ (1000000000000000000 : Int) ≤ c := by simpa using h
    exact ⟨triD (0, c % 2147483629, 1), by simp [g26, den, i26, outsOf, hp, h', triD], _, rfl⟩
/-! moves -/
def nearL : List (Int × Int) := [(0, 1), (0, -1), (1, 0), (-1, 0), (1, 1), (-1, -1), (1, -1), (-1, 1)]
def dctP (ps : List (Int × Int)) : D := .dct (ps.map keyP) (ps.map fun _ => .bl true)
theorem keyOf_pair {p : Int × Int} : keyOf (pairD p) = some (keyP p) := rfl
theorem keyP_inj {p q : Int × Int} (h : keyP p = keyP q) : p = q := by
  unfold keyP at h
  simp only [List.cons.injEq, Sum.inl.injEq, and_true] at h
  exact Prod.ext h.1 h.2
theorem any_key {q : Int × Int} : ∀ {ps : List (Int × Int)}, ((ps.map keyP).any fun z => decide (z = keyP q)) = decide (q ∈ ps)
  | [] => by simp
  | p :: ps => by
    rw [List.map_cons, List.any_cons, any_key, Bool.eq_iff_iff]
    simp only [Bool.or_eq_true, decide_eq_true_eq, List.mem_cons]
    constructor
    · rintro (h | h)
      · exact .inl (keyP_inj h).symm
      · exact .inr h
    · rintro (h | h)
      · exact .inl (by rw [h])
      · exact .inr h
theorem zip_true {q : Int × Int} : ∀ {ps : List (Int × Int)}, ((ps.map keyP).zip (ps.map fun _ => D.bl true)).map (fun p => if p.1 = keyP q then D.bl true else p.2) = ps.map fun _ => D.bl true
  | [] => rfl
  | p :: ps => by
    rw [List.map_cons, List.map_cons, List.zip_cons_cons, List.map_cons, zip_true]
    congr 1
    simp
def addP (ps : List (Int × Int)) (q : Int × Int) : List (Int × Int) := if q ∈ ps then ps else ps ++ [q]
theorem put_dct {ps : List (Int × Int)} {q : Int × Int} (h : ps.length < 4096) : putK2 (.bl true) (keyP q) (dctP ps) = some (dctP (addP ps q)) := by
  have hz : (4096 : Nat) ≤ sizeLine := by decide
  have h1 : (ps.map fun _ => D.bl true).all D.imm = true := by simp
  unfold putK2 dctP
  simp only
  rw [h1, if_pos (by simp; omega)]
  unfold putS addP
  rw [any_key]
  by_cases hq : q ∈ ps
  · rw [decide_eq_true hq, if_pos rfl, if_pos hq]
    simp only
    rw [zip_true]
  · rw [decide_eq_false hq, if_neg (by simp), if_neg hq]
    simp
theorem sort_dct {ps : List (Int × Int)} (h : ps.length < 64) : Mk.sem true .sorted (dctP ps) = some (movD (ps.mergeSort leP)) := by
  have e : (ps.map keyP).map keyD = ps.map pairD := by
    rw [List.map_map]
    rfl
  show (if (ps.map keyP).length < 64 then (pairsOf ((ps.map keyP).map keyD)).map _ else none) = _
  rw [if_pos (by simpa using h), e, pairsOf_map]
  rfl
def b28 : List S := match i28 with | [_, _, .forr _ _ b, _] => b | _ => []
theorem near_rg : ∀ p ∈ nearL, rgM p := by
  intro p hp
  simp only [nearL, List.mem_cons, List.not_mem_nil, or_false] at hp
  unfold rgM
  rcases hp with rfl | rfl | rfl | rfl | rfl | rfl | rfl | rfl <;> decide
theorem w28b {d : D} (hd : StoreOk d) {ps : List (Int × Int)} (nd : ps.Nodup) (ok : ∀ p ∈ ps, okM p) (hl : ps.length < 4096) {m k y : Option D} :
    ∃ (d' : D) (ps' : List (Int × Int)) (y' : Option D), evSs h28 b28 [some d, m, some (.lst (nearL.map pairD)), some (dctP ps), k, y] = .nx [some d', m, some (.lst (nearL.map pairD)), some (dctP ps'), k, y'] ∧ StoreOk d' ∧ ps'.Nodup ∧ (∀ p ∈ ps', okM p) ∧ ps'.length ≤ ps.length + 1 := by
  obtain ⟨r1, d1, e1, k1, p1, q1⟩ := w27 hd (m := 8) (by decide)
  obtain ⟨q, hq⟩ : ∃ q, nearL[r1.toNat]? = some q := ⟨_, List.getElem?_eq_getElem (by simp [nearL]; omega)⟩
  have at1 : atI (nearL.map pairD) r1 = some (pairD q) := by
    rw [atI_of_nonneg p1, List.getElem?_map, hq]
    rfl
  have rq := near_rg q (List.mem_of_getElem? hq)
  obtain ⟨r2, d2, e2, k2, p2, q2⟩ := w27 k1 (m := 3) (by decide)
  -- what is put in
  have fin : ∀ (d0 : D) (z : Int × Int), StoreOk d0 → rgM z → ∃ (ps' : List (Int × Int)), evSs h28 (b28.drop 2) [some d0, m, some (.lst (nearL.map pairD)), some (dctP ps), k, some (pairD z)] = .nx [some d0, m, some (.lst (nearL.map pairD)), some (dctP ps'), k, some (pairD z)] ∧ ps'.Nodup ∧ (∀ p ∈ ps', okM p) ∧ ps'.length ≤ ps.length + 1 := fun d0 z _ rz => by
    by_cases hz : z = (0, 0)
    · refine ⟨ps, ?_, nd, ok, by omega⟩
      simp [b28, i28, ne_zero, -c_ne, hz]
    · refine ⟨addP ps z, ?_, ?_, ?_, ?_⟩
      · simp [b28, i28, ne_zero, -c_ne, hz, keyOf_pair, put_dct hl]
      · unfold addP
        split
        · exact nd
        · rename_i hn
          rw [List.nodup_append]
          exact ⟨nd, by simp, by intro a ha b hb e; simp at hb; subst hb; subst e; exact hn ha⟩
      · unfold addP
        intro p hp
        split at hp
        · exact ok p hp
        · rcases List.mem_append.mp hp with hp | hp
          · exact ok p hp
          · rw [List.mem_singleton.mp hp]
            exact ⟨rz.1, rz.2, fun e => hz (Prod.ext e.1 e.2)⟩
      · unfold addP
        split
        · omega
        · simp
  by_cases h0 : r2 = 0
  · subst h0
    obtain ⟨r3, d3, e3, k3, p3, q3⟩ := w27 k2 (m := 11) (by decide)
    obtain ⟨r4, d4, e4, k4, p4, q4⟩ := w27 k3 (m := 11) (by decide)
    obtain ⟨ps', f1, f2, f3, f4⟩ := fin d4 (r3 - 5, r4 - 5) k4 ⟨by constructor <;> simp <;> omega, by constructor <;> simp <;> omega⟩
    refine ⟨d4, ps', some (pairD (r3 - 5, r4 - 5)), ?_, k4, f2, f3, f4⟩
    rw [show b28 = b28.take 2 ++ b28.drop 2 from rfl, evSs_append]
    have E : evSs h28 (b28.take 2) [some d, m, some (.lst (nearL.map pairD)), some (dctP ps), k, y] = .nx [some d4, m, some (.lst (nearL.map pairD)), some (dctP ps), k, some (pairD (r3 - 5, r4 - 5))] := by
      have f3 : ∀ a b : Int, D.tup [.int a, .int b] = pairD (a, b) := fun _ _ => rfl
      simp [b28, i28, h28, e1, e2, e3, e4, putP, at1, f3]
    rw [E, seq_nx, f1]
  · have h0' : (r2 == 0) = false := by simpa using h0
    obtain ⟨ps', f1, f2, f3, f4⟩ := fin d2 q k2 rq
    refine ⟨d2, ps', some (pairD q), ?_, k2, f2, f3, f4⟩
    rw [show b28 = b28.take 2 ++ b28.drop 2 from rfl, evSs_append]
    have E : evSs h28 (b28.take 2) [some d, m, some (.lst (nearL.map pairD)), some (dctP ps), k, y] = .nx [some d2, m, some (.lst (nearL.map pairD)), some (dctP ps), k, some (pairD q)] := by
      simp [b28, i28, h28, e1, e2, putP, at1, h0']
    rw [E, seq_nx, f1]
theorem w28 {d : D} (hd : StoreOk d) : ∃ (ps : List (Int × Int)) (d' : D), g28 [d, .int 8] = .ok (movD ps) [d', .int 8] ∧ StoreOk d' ∧ MovOk ps := by
  obtain ⟨N, d1, e1, k1, p1, q1⟩ := w27 hd (m := 9) (by decide)
  have hr := rng0 (n := N) (by omega)
  obtain ⟨Γ', eL, d', ps, x, y, kd, nd, ok, hl, rfl⟩ := forL_inv (turn := turnOf h28 (.nm 4 false) b28) (fun k Γ => ∃ (d : D) (ps : List (Int × Int)) (x y : Option D), StoreOk d ∧ ps.Nodup ∧ (∀ p ∈ ps, okM p) ∧ ps.length ≤ k ∧ Γ = [some d, some (.int 8), some (.lst (nearL.map pairD)), some (dctP ps), x, y]) (ds := rngL 0 N.toNat) (k := 0) (Γ := [some d1, some (.int 8), some (.lst (nearL.map pairD)), some (dctP []), none, none]) (fun i it Γ hi ⟨d, ps, x, y, kd, nd, ok, hl, hΓ⟩ => by
    subst hΓ
    have hi' : i < N.toNat := by
      have := (List.getElem?_eq_some_iff.mp hi).1
      rw [rngL_len] at this
      exact this
    rw [turn_nm (by rfl)]
    obtain ⟨d', ps', y', e, kd', nd', ok', hl'⟩ := w28b kd nd ok (by omega) (m := some (.int 8)) (k := some it) (y := y)
    exact ⟨_, e, d', ps', some it, y', kd', nd', ok', by omega, rfl⟩) ⟨d1, [], none, none, k1, List.nodup_nil, by simp, by simp, rfl⟩
  rw [rngL_len] at hl
  have hs := sort_dct (ps := ps) (by omega)
  have E : evSs h28 i28 [some d, some (.int 8), none, none, none, none] = .rt (movD (ps.mergeSort leP)) [some d', some (.int 8), some (.lst (nearL.map pairD)), some (dctP ps), x, y] := by
    rw [show i28 = i28.take 2 ++ [.forr (.nm 4 false) [.call 27 [.var 0, .bin .add (.var 1) (.cn (.int 1))] [(0, 0)]] b28, .ret (.mk .sorted true (.var 3))] from rfl, evSs_append]
    have E0 : evSs h28 (i28.take 2) [some d, some (.int 8), none, none, none, none] = .nx [some d, some (.int 8), some (.lst (nearL.map pairD)), some (dctP []), none, none] := by
      simp [i28, nearL, pairD, dctP]
    rw [E0, seq_nx]
    simp [show h28.f 27 = g27 from rfl, e1, putP, hr]
    rw [eL]
    simp [hs]
  refine ⟨ps.mergeSort leP, d', ?_, kd, sorted_ok nd ok (by omega)⟩
  simp [g28, den, E, outsOf]
end CWL
namespace CWL
open PySem L2 CW
/-- a comprehension whose turns are known up to what stands in the names -/
theorem comp_map {α β : Type} {emb : α → D} {emb' : β → D} {f : α → β} {T : D → CW.Env → R (Option D)} (L : CW.Env → Prop) : ∀ {l : List α} {acc : List D} {Γ : CW.Env}, (∀ a ∈ l, ∀ Γ, L Γ → ∃ Γ', T (emb a) Γ = .ok (some (emb' (f a))) Γ' ∧ L Γ') → L Γ → ∃ Γ', compL T (l.map emb) acc Γ = .ok (acc.reverse ++ (l.map f).map emb') Γ' ∧ L Γ'
  | [], acc, Γ, _, h => ⟨Γ, by rw [List.map_nil, compL, List.map_nil, List.map_nil, List.append_nil], h⟩
  | a :: l, acc, Γ, hs, h => by
    obtain ⟨Γ1, e1, h1⟩ := hs a List.mem_cons_self Γ h
    obtain ⟨Γ2, e2, h2⟩ := comp_map (emb := emb) (emb' := emb') (f := f) L (l := l) (acc := emb' (f a) :: acc) (fun b hb Γ h => hs b (List.mem_cons_of_mem _ hb) Γ h) h1
    refine ⟨Γ2, ?_, h2⟩
    rw [List.map_cons, compL, e1, bind_ok]
    refine e2.trans ?_
    congr 1
    simp
/-- rows made over any items -/
def Bd (x : Int) : Prop := -1000000000000000000000000000000 ≤ x ∧ x ≤ 1000000000000000000000000000000
def RW (w : Nat) (r : List Int) : Prop := r.length = w ∧ ∀ x ∈ r, Bd x
theorem comp_rowsL {T : D → CW.Env → R (Option D)} {P : List Int → Prop} {L : CW.Env → Prop} {ds : List D} {Γ : CW.Env} (hs : ∀ (i : Nat) (d : D) (Γ : CW.Env), ds[i]? = some d → L Γ → ∃ (r : List Int) (Γ' : CW.Env), T d Γ = .ok (some (.lst (r.map .int))) Γ' ∧ P r ∧ L Γ') (h : L Γ) :
    ∃ (rows : List (List Int)) (Γ' : CW.Env), compL T ds [] Γ = .ok (rows.map fun r => .lst (r.map .int)) Γ' ∧ rows.length = ds.length ∧ (∀ r ∈ rows, P r) ∧ L Γ' := by
  obtain ⟨ys, Γ', e, rows, rfl, hl, hw, hL⟩ := comp_inv (T := T) (fun k ys Γ => ∃ rows : List (List Int), ys = rows.map (fun r => .lst (r.map .int)) ∧ rows.length = k ∧ (∀ r ∈ rows, P r) ∧ L Γ) (ds := ds) (acc := []) (k := 0) (Γ := Γ) (fun i d ys Γ hd ⟨rows, hy, hl, hw, hL⟩ => by
    subst hy
    obtain ⟨r, Γ', e, hr, hL'⟩ := hs i d Γ hd hL
    refine ⟨some (.lst (r.map .int)), Γ', e, rows ++ [r], by simp, by simp [hl], ?_, hL'⟩
    intro r' hr'
    rcases List.mem_append.mp hr' with h | h
    · exact hw r' h
    · rw [List.mem_singleton.mp h]
      exact hr) ⟨[], rfl, rfl, by simp, h⟩
  exact ⟨rows, Γ', e, by omega, hw, hL⟩
/-- numbers made over any items -/
theorem comp_numsL {T : D → CW.Env → R (Option D)} {L : CW.Env → Prop} {ds : List D} {Γ : CW.Env} (hs : ∀ (i : Nat) (d : D) (Γ : CW.Env), ds[i]? = some d → L Γ → ∃ (x : Int) (Γ' : CW.Env), T d Γ = .ok (some (.int x)) Γ' ∧ Bd x ∧ L Γ') (h : L Γ) :
    ∃ (ns : List Int) (Γ' : CW.Env), compL T ds [] Γ = .ok (ns.map .int) Γ' ∧ ns.length = ds.length ∧ (∀ x ∈ ns, Bd x) ∧ L Γ' := by
  obtain ⟨ys, Γ', e, ns, rfl, hl, hB, hL⟩ := comp_inv (T := T) (fun k ys Γ => ∃ ns : List Int, ys = ns.map .int ∧ ns.length = k ∧ (∀ x ∈ ns, Bd x) ∧ L Γ) (ds := ds) (acc := []) (k := 0) (Γ := Γ) (fun i d ys Γ hd ⟨ns, hy, hl, hB, hL⟩ => by
    subst hy
    obtain ⟨x, Γ', e, bx, hL'⟩ := hs i d Γ hd hL
    exact ⟨some (.int x), Γ', e, ns ++ [x], by simp, by simp [hl], fun z hz => by
      rcases List.mem_append.mp hz with q | q
      · exact hB z q
      · rw [List.mem_singleton.mp q]; exact bx, hL'⟩) ⟨[], rfl, rfl, by simp, h⟩
  exact ⟨ns, Γ', e, by omega, hB, hL⟩
theorem rngL_at {n i : Nat} {d : D} (h : (rngL 0 n)[i]? = some d) : i < n ∧ d = .int (0 + (i : Int)) := by
  have hi : i < n := by
    have := (List.getElem?_eq_some_iff.mp h).1
    rw [rngL_len] at this
    exact this
  rw [rngL_get hi] at h
  exact ⟨hi, (Option.some.inj h).symm⟩
/-! the chain -/
theorem w29 {h w : Nat} (hh : 1 ≤ h ∧ h ≤ 6) (hw : 1 ≤ w ∧ w ≤ 6) : ∃ rows : List (List Int), g29 [.int (h : Int), .int (w : Int)] = .ok (tabD rows) [.int (h : Int), .int (w : Int)] ∧ rows.length = h ∧ ∀ r ∈ rows, RW w r := by
  have n1 := rng0 (n := (h : Int)) (by omega)
  have n2 := rng0 (n := (w : Int)) (by omega)
  rw [Int.toNat_natCast] at n1 n2
  have hm : ∀ j : Int, mulOk (w : Int) j = true := fun j => mulOk_of (by omega)
  have E0 : ∃ rows : List (List Int), evSs h29 (i29.take 1) [some (.int (h : Int)), some (.int (w : Int)), none, none, none, none] = .nx [some (.int (h : Int)), some (.int (w : Int)), some (tabD rows), none, none, none] ∧ rows.length = h ∧ ∀ r ∈ rows, RW w r := by
    simp [i29, n1]
    generalize hC : compL _ _ _ _ = q
    obtain ⟨rows, Γ', e, h1, h2, z, rfl⟩ := comp_rowsL (P := RW w) (T := compT h29 [3] (.nm 3 false) none (.lcr [4] (.nm 4 false) [.var 1] none (.bin .add (.bin .mul (.var 1) (.var 3)) (.var 4)))) (L := fun Γ => ∃ z, Γ = [some (.int (h : Int)), some (.int (w : Int)), none, z, none, none]) (ds := rngL 0 h) (Γ := [some (.int (h : Int)), some (.int (w : Int)), none, none, none, none]) (fun i d Γ hd ⟨z, hΓ⟩ => by
      subst hΓ
      obtain ⟨hi, rfl⟩ := rngL_at hd
      rw [compT_nm (by rfl)]
      simp [n2]
      generalize hC : compL _ _ _ _ = q
      obtain ⟨ns, Γ', e, hl, hB, z, rfl⟩ := comp_numsL (T := compT h29 [4] (.nm 4 false) none (.bin .add (.bin .mul (.var 1) (.var 3)) (.var 4))) (L := fun Γ => ∃ z, Γ = [some (.int (h : Int)), some (.int (w : Int)), none, some (.int (i : Int)), z, none]) (ds := rngL 0 w) (Γ := [some (.int (h : Int)), some (.int (w : Int)), none, some (.int (i : Int)), none, none]) (fun j d Γ hd ⟨z, hΓ⟩ => by
        subst hΓ
        obtain ⟨hj, rfl⟩ := rngL_at hd
        rw [compT_nm (by rfl)]
        refine ⟨(w : Int) * i + (0 + (j : Int)), _, ?_, ?_, some (.int (0 + (j : Int))), rfl⟩
        · simp [hm]
        · have q : w * i ≤ 6 * 6 := Nat.mul_le_mul hw.2 (by omega)
          have q2 : ((w * i : Nat) : Int) ≤ 36 := by omega
          rw [Int.natCast_mul] at q2
          have q3 : (0 : Int) ≤ (w : Int) * i := by rw [← Int.natCast_mul]; omega
          unfold Bd
          omega) ⟨none, rfl⟩
      rw [e] at hC
      subst hC
      rw [rngL_len] at hl
      exact ⟨ns, [some (.int (h : Int)), some (.int (w : Int)), none, some (.int (i : Int)), none, none], by simp, ⟨hl, hB⟩, some (.int (i : Int)), rfl⟩) ⟨none, rfl⟩
    rw [e] at hC
    subst hC
    rw [rngL_len] at h1
    exact ⟨rows, by simp [tabD], h1, h2⟩
  obtain ⟨rows, E0, l0, w0⟩ := E0
  have it : itemsOf false (tabD rows) = some (rows.map fun r => .lst (r.map .int)) := rfl
  have E1 : ∃ rows2 : List (List Int), evSs h29 (i29.drop 1) [some (.int (h : Int)), some (.int (w : Int)), some (tabD rows), none, none, none] = .rt (tabD rows2) [some (.int (h : Int)), some (.int (w : Int)), some (tabD rows), none, none, none] ∧ rows2.length = h ∧ ∀ r ∈ rows2, RW w r := by
    simp [i29, it, wipeE]
    generalize hC : compL _ _ _ _ = q
    obtain ⟨rows2, Γ', e, h1, h2, z3, z5, rfl⟩ := comp_rowsL (P := RW w) (T := compT h29 [3, 5] (.tup [.nm 3 true, .nm 5 false]) none (.ix (.lst [.var 5, .rev true (.var 5)]) (.bin .mod (.var 3) (.cn (.int 2))))) (L := fun Γ => ∃ z3 z5, Γ = [some (.int (h : Int)), some (.int (w : Int)), some (tabD rows), z3, none, z5]) (ds := numD (rows.map fun r => .lst (r.map .int))) (Γ := [some (.int (h : Int)), some (.int (w : Int)), some (tabD rows), none, none, none]) (fun i d Γ hd ⟨z3, z5, hΓ⟩ => by
      subst hΓ
      have hi : i < rows.length := by
        have := (List.getElem?_eq_some_iff.mp hd).1
        rw [numD_len, List.length_map] at this
        exact this
      rw [numD_get (d := .lst (rows[i].map .int)) (by rw [List.getElem?_map, List.getElem?_eq_getElem hi]; rfl)] at hd
      cases hd
      have hr := w0 _ (List.getElem_mem hi)
      generalize rows[i] = r at hr
      have okr : okL true (r.map D.int).reverse = some (.lst (r.reverse.map .int)) := by
        rw [← List.map_reverse]
        exact okL_ints
      obtain ⟨s, es, hs⟩ : ∃ s : List Int, atI [D.lst (r.map .int), D.lst (r.reverse.map .int)] ((i : Int) % 2) = some (.lst (s.map .int)) ∧ RW w s := by
        obtain e | e : (i : Int) % 2 = 0 ∨ (i : Int) % 2 = 1 := by omega
        · exact ⟨r, by rw [e, at_0]; rfl, hr⟩
        · exact ⟨r.reverse, by rw [e, at_1]; rfl, by rw [List.length_reverse]; exact hr.1, fun x hx => hr.2 x (List.mem_reverse.mp hx)⟩
      refine ⟨s, [some (.int (h : Int)), some (.int (w : Int)), some (tabD rows), some (.int (i : Int)), none, some (.lst (r.map .int))], ?_, hs, _, _, rfl⟩
      unfold compT
      simp [Tg.bind, Tg.binds, wipeE, okr, es, -List.map_reverse]) ⟨none, none, rfl⟩
    rw [e] at hC
    subst hC
    rw [numD_len, List.length_map] at h1
    exact ⟨rows2, by simp [tabD, backE], by omega, h2⟩
  obtain ⟨rows2, E1, l1, w1⟩ := E1
  refine ⟨rows2, ?_, l1, w1⟩
  have E : evSs h29 i29 [some (.int (h : Int)), some (.int (w : Int)), none, none, none, none] = .rt (tabD rows2) [some (.int (h : Int)), some (.int (w : Int)), some (tabD rows), none, none, none] := by
    rw [show i29 = i29.take 1 ++ i29.drop 1 from rfl, evSs_append, E0, seq_nx, E1]
  simp [g29, den, E, outsOf]
end CWL
namespace CWL
open PySem L2 CW
@[simp] theorem at_5 {α : Type} {l : List α} : atI l 5 = l[5]? := atI_nat (n := 5)
@[simp] theorem at_6 {α : Type} {l : List α} : atI l 6 = l[6]? := atI_nat (n := 6)
theorem most7 {way : Int} (h : 0 ≤ way ∧ way < 7) (h0 : way ≠ 0) : ∃ m : Int, atI [D.int 0, D.int 3, D.int 8, D.int 50, D.int (10 ^ 25), D.int 1, D.int 1] way = some (.int m) ∧ 1 ≤ m ∧ m ≤ 10 ^ 25 := by
  obtain rfl | rfl | rfl | rfl | rfl | rfl : way = 1 ∨ way = 2 ∨ way = 3 ∨ way = 4 ∨ way = 5 ∨ way = 6 := by omega
  · exact ⟨3, by rw [at_1]; rfl, by decide, by decide⟩
  · exact ⟨8, by rw [at_2]; rfl, by decide, by decide⟩
  · exact ⟨50, by rw [at_3]; rfl, by decide, by decide⟩
  · exact ⟨10 ^ 25, by rw [at_4]; rfl, by decide, by decide⟩
  · exact ⟨1, by rw [at_5]; rfl, by decide, by decide⟩
  · exact ⟨1, by rw [at_6]; rfl, by decide, by decide⟩
def b30 : List S := match i30 with | [_, _, _, _, .forr _ _ b, _] => b | _ => []
theorem w30b {d : D} (hd : StoreOk d) {h w i : Nat} {way m : Int} {rows : List (List Int)} (hw : 1 ≤ w ∧ w ≤ 6) (hm : 1 ≤ m ∧ m ≤ 10 ^ 25) (hi6 : i ≤ 6) (hlr : rows.length ≤ 6) {x7 : Option D} :
    ∃ (d' : D) (r : List Int), evSs h30 b30 [some d, some (.int (h : Int)), some (.int (w : Int)), some (.int way), some (.int m), some (tabD rows), some (.int (i : Int)), x7, none] = .nx [some d', some (.int (h : Int)), some (.int (w : Int)), some (.int way), some (.int m), some (tabD (rows ++ [r])), some (.int (i : Int)), none, none] ∧ StoreOk d' ∧ RW w r := by
  have n2 := rng0 (n := (w : Int)) (by omega)
  rw [Int.toNat_natCast] at n2
  have d2 : divOk 2 = true := by rw [divOk_eq]; decide
  have hm' : m < 2 ^ 128 := Int.lt_of_le_of_lt hm.2 (by decide)
  have E0 : ∃ (d' : D) (r : List Int), evSs h30 (b30.take 1) [some d, some (.int (h : Int)), some (.int (w : Int)), some (.int way), some (.int m), some (tabD rows), some (.int (i : Int)), x7, none] = .nx [some d', some (.int (h : Int)), some (.int (w : Int)), some (.int way), some (.int m), some (tabD rows), some (.int (i : Int)), some (.lst (r.map .int)), none] ∧ StoreOk d' ∧ RW w r := by
    simp [b30, i30, n2]
    generalize hC : compL _ _ _ _ = q
    obtain ⟨ns, Γ', e, hl, hB, d1, z, k1, rfl⟩ := comp_numsL (T := compT h30 [8] (.nm 8 false) none (.bin .sub (.call 27 [.var 0, .var 4] [(0, 0)]) (.ix (.lst [.cn (.int 0), .bin .fdiv (.var 4) (.cn (.int 2))]) (.bi .int1 [.cmp .eq (.var 3) (.cn (.int 4))])))) (L := fun Γ => ∃ d1 z, StoreOk d1 ∧ Γ = [some d1, some (.int (h : Int)), some (.int (w : Int)), some (.int way), some (.int m), some (tabD rows), some (.int (i : Int)), x7, z]) (ds := rngL 0 w) (Γ := [some d, some (.int (h : Int)), some (.int (w : Int)), some (.int way), some (.int m), some (tabD rows), some (.int (i : Int)), x7, none]) (fun j dd Γ hdd ⟨d1, z, k1, hΓ⟩ => by
      subst hΓ
      obtain ⟨hj, rfl⟩ := rngL_at hdd
      obtain ⟨r, d2', e2, k2, b0, b1⟩ := w27 k1 (m := m) (by omega)
      have e25 : (10 : Int) ^ 25 = 10000000000000000000000000 := by decide
      rw [e25] at hm
      rw [compT_nm (by rfl)]
      by_cases h4 : way = 4
      · subst h4
        refine ⟨r - m / 2, _, ?_, ?_, d2', some (.int (0 + (j : Int))), k2, rfl⟩
        · simp [h30, e2, putP, d2]
        · unfold Bd
          omega
      · have h4' : (way == 4) = false := by simpa using h4
        refine ⟨r - 0, _, ?_, ?_, d2', some (.int (0 + (j : Int))), k2, rfl⟩
        · simp [h30, e2, putP, d2, h4']
        · unfold Bd
          omega) ⟨d, none, hd, rfl⟩
    rw [e] at hC
    subst hC
    rw [rngL_len] at hl
    exact ⟨d1, ns, by simp, k1, hl, hB⟩
  obtain ⟨d1, r1, E0, k1, l1⟩ := E0
  have E1 : ∃ (r : List Int), evSs h30 ((b30.drop 1).take 1) [some d1, some (.int (h : Int)), some (.int (w : Int)), some (.int way), some (.int m), some (tabD rows), some (.int (i : Int)), some (.lst (r1.map .int)), none] = .nx [some d1, some (.int (h : Int)), some (.int (w : Int)), some (.int way), some (.int m), some (tabD rows), some (.int (i : Int)), some (.lst (r.map .int)), none] ∧ RW w r := by
    by_cases h5 : way = 5
    · subst h5
      simp [b30, i30, n2]
      generalize hC : compL _ _ _ _ = q
      have hm2 : ∀ j : Int, mulOk 2 j = true := fun j => mulOk_of (by omega)
      obtain ⟨ns, Γ', e, hl, hB, z, rfl⟩ := comp_numsL (T := compT h30 [8] (.nm 8 false) none (.bin .add (.var 6) (.bin .mul (.cn (.int 2)) (.var 8)))) (L := fun Γ => ∃ z, Γ = [some d1, some (.int (h : Int)), some (.int (w : Int)), some (.int 5), some (.int m), some (tabD rows), some (.int (i : Int)), some (.lst (r1.map .int)), z]) (ds := rngL 0 w) (Γ := [some d1, some (.int (h : Int)), some (.int (w : Int)), some (.int 5), some (.int m), some (tabD rows), some (.int (i : Int)), some (.lst (r1.map .int)), none]) (fun j dd Γ hdd ⟨z, hΓ⟩ => by
        subst hΓ
        obtain ⟨hj, rfl⟩ := rngL_at hdd
        rw [compT_nm (by rfl)]
        refine ⟨(i : Int) + 2 * (0 + (j : Int)), _, ?_, ?_, some (.int (0 + (j : Int))), rfl⟩
        · simp [hm2]
        · unfold Bd
          omega) ⟨none, rfl⟩
      rw [e] at hC
      subst hC
      rw [rngL_len] at hl
      exact ⟨ns, by simp, hl, hB⟩
    · have h5' : (way == 5) = false := by simpa using h5
      exact ⟨r1, by simp [b30, i30, h5'], l1⟩
  obtain ⟨r, E1, l2⟩ := E1
  have hz : (4096 : Nat) ≤ sizeLine := by decide
  have E2 : evSs h30 (b30.drop 2) [some d1, some (.int (h : Int)), some (.int (w : Int)), some (.int way), some (.int m), some (tabD rows), some (.int (i : Int)), some (.lst (r.map .int)), none] = .nx [some d1, some (.int (h : Int)), some (.int (w : Int)), some (.int way), some (.int m), some (tabD (rows ++ [r])), some (.int (i : Int)), none, none] := by
    simp [b30, i30, tabD, lsAt, appK, show rows.length < sizeLine by omega]
  refine ⟨d1, r, ?_, k1, l2⟩
  rw [show b30 = b30.take 1 ++ ((b30.drop 1).take 1 ++ b30.drop 2) from rfl, evSs_append, E0, seq_nx, evSs_append, E1, seq_nx, E2]
theorem w30 {d : D} (hd : StoreOk d) {h w : Nat} (hh : 1 ≤ h ∧ h ≤ 6) (hw : 1 ≤ w ∧ w ≤ 6) : ∃ (rows : List (List Int)) (d' : D), g30 [d, .int (h : Int), .int (w : Int)] = .ok (tabD rows) [d', .int (h : Int), .int (w : Int)] ∧ StoreOk d' ∧ rows.length = h ∧ ∀ r ∈ rows, RW w r := by
  have n1 := rng0 (n := (h : Int)) (by omega)
  rw [Int.toNat_natCast] at n1
  obtain ⟨way, d1, e1, k1, p1, q1⟩ := w27 hd (m := 7) (by decide)
  by_cases h0 : way = 0
  · subst h0
    obtain ⟨rows, e2, l2, w2⟩ := w29 hh hw
    exact ⟨rows, d1, by simp [g30, den, i30, outsOf, h30, e1, e2, putP], k1, l2, w2⟩
  · have h0' : (way == 0) = false := by simpa using h0
    obtain ⟨m, em, m1, m2⟩ := most7 ⟨p1, q1⟩ h0
    have hp : powOk 10 25 = true := by rw [powOk_eq]; decide
    have E0 : evSs h30 (i30.take 4) [some d, some (.int (h : Int)), some (.int (w : Int)), none, none, none, none, none, none] = .nx [some d1, some (.int (h : Int)), some (.int (w : Int)), some (.int way), some (.int m), some (tabD []), none, none, none] := by
      have em' : atI [D.int 0, D.int 3, D.int 8, D.int 50, D.int 10000000000000000000000000, D.int 1, D.int 1] way = some (.int m) := em
      simp [i30, h30, e1, putP, h0', hp, em', tabD]
    obtain ⟨Γ', eL, d', rows, x6, x7, kd, hl, hrw, rfl⟩ := forL_inv (turn := turnOf h30 (.nm 6 false) b30) (fun k Γ => ∃ (d : D) (rows : List (List Int)) (x6 x7 : Option D), StoreOk d ∧ rows.length = k ∧ (∀ r ∈ rows, RW w r) ∧ Γ = [some d, some (.int (h : Int)), some (.int (w : Int)), some (.int way), some (.int m), some (tabD rows), x6, x7, none]) (ds := rngL 0 h) (k := 0) (Γ := [some d1, some (.int (h : Int)), some (.int (w : Int)), some (.int way), some (.int m), some (tabD []), none, none, none]) (fun i it Γ hi ⟨d, rows, x6, x7, kd, hl, hrw, hΓ⟩ => by
      subst hΓ
      obtain ⟨hih, rfl⟩ := rngL_at hi
      rw [turn_nm (by rfl), Int.zero_add]
      obtain ⟨d', r, e, kd', hr⟩ := w30b (h := h) (i := i) (way := way) (rows := rows) kd hw ⟨m1, m2⟩ (by omega) (by omega) (x7 := x7)
      refine ⟨_, e, d', rows ++ [r], some (.int (i : Int)), none, kd', by simp; omega, ?_, rfl⟩
      intro r' hr'
      rcases List.mem_append.mp hr' with z | z
      · exact hrw r' z
      · rw [List.mem_singleton.mp z]
        exact hr) ⟨d1, [], none, none, k1, rfl, by simp, rfl⟩
    rw [rngL_len, Nat.zero_add] at hl
    have E : evSs h30 i30 [some d, some (.int (h : Int)), some (.int (w : Int)), none, none, none, none, none, none] = .rt (tabD rows) [some d', some (.int (h : Int)), some (.int (w : Int)), some (.int way), some (.int m), none, x6, x7, none] := by
      rw [show i30 = i30.take 4 ++ [.forr (.nm 6 false) [.var 1] b30, .ret (.mv 5)] from rfl, evSs_append, E0, seq_nx]
      simp [n1]
      rw [eL]
      simp
    exact ⟨rows, d', by simp [g30, den, E, outsOf], kd, hl, hrw⟩
/-! the land -/
theorem size3 {d : D} (hd : StoreOk d) : ∃ (r : Int) (d1 : D) (s : Int) (d2 : D) (t : Int) (d3 : D) (n : Nat), g27 [d, .int 6] = .ok (.int r) [d1, .int 6] ∧ g27 [d1, .int 5] = .ok (.int s) [d2, .int 5] ∧ g27 [d2, .int 3] = .ok (.int t) [d3, .int 3] ∧ atI [D.int (1 + r), D.int (2 + s), D.int 6] t = some (.int (n : Int)) ∧ StoreOk d3 ∧ 1 ≤ n ∧ n ≤ 6 := by
  obtain ⟨r, d1, e1, k1, p1, q1⟩ := w27 hd (m := 6) (by decide)
  obtain ⟨s, d2, e2, k2, p2, q2⟩ := w27 k1 (m := 5) (by decide)
  obtain ⟨t, d3, e3, k3, p3, q3⟩ := w27 k2 (m := 3) (by decide)
  obtain rfl | rfl | rfl : t = 0 ∨ t = 1 ∨ t = 2 := by omega
  · refine ⟨r, d1, s, d2, 0, d3, (1 + r).toNat, e1, e2, e3, ?_, k3, by omega, by omega⟩
    rw [at_0, Int.toNat_of_nonneg (by omega)]
    rfl
  · refine ⟨r, d1, s, d2, 1, d3, (2 + s).toNat, e1, e2, e3, ?_, k3, by omega, by omega⟩
    rw [at_1, Int.toNat_of_nonneg (by omega)]
    rfl
  · exact ⟨r, d1, s, d2, 2, d3, 6, e1, e2, e3, by rw [at_2]; rfl, k3, by omega, by omega⟩
def fourL : List (Int × Int) := [(-1, 0), (0, -1), (0, 1), (1, 0)]
theorem four_ok : MovOk fourL := by
  refine ⟨by decide, ?_, ?_⟩
  · intro p hp
    simp only [fourL, List.mem_cons, List.not_mem_nil, or_false] at hp
    unfold okM
    rcases hp with rfl | rfl | rfl | rfl <;> decide
  · unfold fourL ltM
    decide
theorem MovOk.filt {ps : List (Int × Int)} (h : MovOk ps) (f : Int × Int → Bool) : MovOk (ps.filter f) :=
  ⟨Nat.le_trans (List.length_filter_le _ _) h.len, fun p hp => h.ok p (List.mem_filter.mp hp).1, h.up.filter _⟩
theorem w31c {st ps : List (Int × Int)} {x0 x1 x2 x3 x5 : Option D} : ∃ z, compL (compT h31 [6] (.nm 6 false) (some (.cmp .notin (.var 6) (.var 4))) (.var 6)) (ps.map pairD) [] [x0, x1, x2, x3, some (movD st), x5, none] = .ok ((ps.filter fun p => !decide (p ∈ st)).map pairD) [x0, x1, x2, x3, some (movD st), x5, z] := by
  obtain ⟨Γ', e, z, rfl⟩ := comp_filt (T := compT h31 [6] (.nm 6 false) (some (.cmp .notin (.var 6) (.var 4))) (.var 6)) (fun _ Γ => ∃ z, Γ = [x0, x1, x2, x3, some (movD st), x5, z]) (fun d => (pairOf d).bind fun p => if p ∈ st then none else some (pairD p)) (ds := ps.map pairD) (acc := []) (k := 0) (Γ := [x0, x1, x2, x3, some (movD st), x5, none]) (fun i d Γ hi ⟨z, hΓ⟩ => by
    subst hΓ
    obtain ⟨p, hp, rfl⟩ := pair_at hi
    refine ⟨[x0, x1, x2, x3, some (movD st), x5, some (pairD p)], ?_, _, rfl⟩
    rw [compT_nm (by rfl)]
    by_cases hm : p ∈ st
    · simp [movD, nin_mov, hm, pairOf_pair]
    · simp [movD, nin_mov, hm, pairOf_pair]) ⟨_, rfl⟩
  refine ⟨z, ?_⟩
  rw [e]
  congr 1
  simp only [List.reverse_nil, List.nil_append, List.filterMap_map]
  clear e
  induction ps with
  | nil => rfl
  | cons q qs ih =>
    by_cases hu : q ∈ st
    · rw [List.filter_cons_of_neg (by simp [hu]), List.filterMap_cons_none, ih]
      simp [pairOf_pair, hu]
    · rw [List.filter_cons_of_pos (by simp [hu]), List.map_cons, List.filterMap_cons_some (b := pairD q), ih]
      simp [pairOf_pair, hu]
theorem w31 {d : D} (hd : StoreOk d) : ∃ (d' : D) (rows : List (List Int)) (wd : Nat) (st ju : List (Int × Int)), g31 [d] = .ok (landD rows st ju) [d'] ∧ StoreOk d' ∧ LandOk rows wd st ju ∧ ∀ r ∈ rows, ∀ x ∈ r, Bd x := by
  obtain ⟨r1, d1, s1, d2, t1, d3, h, e1, e2, e3, a1, k3, hh⟩ := size3 hd
  obtain ⟨r4, d4, s4, d5, t4, d6, w, e4, e5, e6, a4, k6, hw⟩ := size3 k3
  obtain ⟨rows, d7, e7, k7, l7, w7⟩ := w30 k6 hh hw
  obtain ⟨ps1, d8, e8, k8, m8⟩ := w28 k7
  obtain ⟨t9, d9, e9, k9, p9, q9⟩ := w27 k8 (m := 3) (by decide)
  obtain ⟨ps2, d10, e10, k10, m10⟩ := w28 k9
  obtain ⟨t11, d11, e11, k11, p11, q11⟩ := w27 k10 (m := 6) (by decide)
  -- the steps
  obtain ⟨st, E1, hst⟩ : ∃ st, evSs h31 (i31.take 5) [some d, none, none, none, none, none, none] = .nx [some d9, some (.int (h : Int)), some (.int (w : Int)), some (tabD rows), some (movD st), none, none] ∧ MovOk st := by
    by_cases h0 : t9 = 0
    · subst h0
      exact ⟨fourL, by simp [i31, h31, e1, e2, e3, e4, e5, e6, e7, e8, e9, a1, a4, putP, fourL, movD, pairD], four_ok⟩
    · have h0' : (t9 == 0) = false := by simpa using h0
      exact ⟨ps1, by simp [i31, h31, e1, e2, e3, e4, e5, e6, e7, e8, e9, a1, a4, putP, h0'], m8⟩
  obtain ⟨z, ec⟩ := w31c (st := st) (ps := ps2) (x0 := some d10) (x1 := some (.int (h : Int))) (x2 := some (.int (w : Int))) (x3 := some (tabD rows)) (x5 := none)
  have it : itemsOf false (movD ps2) = some (ps2.map pairD) := rfl
  have E2 : evSs h31 ((i31.drop 5).take 1) [some d9, some (.int (h : Int)), some (.int (w : Int)), some (tabD rows), some (movD st), none, none] = .nx [some d10, some (.int (h : Int)), some (.int (w : Int)), some (tabD rows), some (movD st), some (movD (ps2.filter fun p => !decide (p ∈ st))), none] := by
    simp only [h31] at ec
    simp [i31, h31, e10, putP, it]
    rw [ec]
    simp [movD]
  have dj : ∀ p ∈ st, p ∉ ps2.filter fun p => !decide (p ∈ st) := fun p hp hq => by
    have := (List.mem_filter.mp hq).2
    simp [hp] at this
  have E12 : ∀ r : List S, evSs h31 (i31.take 5 ++ ((i31.drop 5).take 1 ++ r)) [some d, none, none, none, none, none, none] = evSs h31 r [some d10, some (.int (h : Int)), some (.int (w : Int)), some (tabD rows), some (movD st), some (movD (ps2.filter fun p => !decide (p ∈ st))), none] := fun r => by
    rw [evSs_append, E1, seq_nx, evSs_append, E2, seq_nx]
  have E0 := E12 (i31.drop 6)
  rw [show i31.take 5 ++ ((i31.drop 5).take 1 ++ i31.drop 6) = i31 from rfl] at E0
  by_cases h0 : t11 = 0
  · subst h0
    have E3 : evSs h31 (i31.drop 6) [some d10, some (.int (h : Int)), some (.int (w : Int)), some (tabD rows), some (movD st), some (movD (ps2.filter fun p => !decide (p ∈ st))), none] = .rt (landD rows (ps2.filter fun p => !decide (p ∈ st)) st) [some d11, some (.int (h : Int)), some (.int (w : Int)), some (tabD rows), some (movD (ps2.filter fun p => !decide (p ∈ st))), some (movD st), none] := by
      have tb : ∀ (a b : D) (Γ : CW.Env), Tg.bind (.tup [.nm 4 false, .nm 5 false]) (.tup [a, b]) Γ = some (CW.put (CW.put Γ 4 a) 5 b) := fun a b Γ => by
        simp [Tg.bind, Tg.binds]
      simp [i31, h31, e11, putP, tb, landD]
    rw [E3] at E0
    exact ⟨d11, rows, w, _, _, by simp [g31, den, E0, outsOf], k11, ⟨by omega, hw, fun r hr => (w7 r hr).1, m10.filt _, hst, fun p hp hq => dj p hq hp⟩, fun r hr => (w7 r hr).2⟩
  · have h0' : (t11 == 0) = false := by simpa using h0
    have E3 : evSs h31 (i31.drop 6) [some d10, some (.int (h : Int)), some (.int (w : Int)), some (tabD rows), some (movD st), some (movD (ps2.filter fun p => !decide (p ∈ st))), none] = .rt (landD rows st (ps2.filter fun p => !decide (p ∈ st))) [some d11, some (.int (h : Int)), some (.int (w : Int)), some (tabD rows), some (movD st), some (movD (ps2.filter fun p => !decide (p ∈ st))), none] := by
      simp [i31, h31, e11, putP, h0', landD]
    rw [E3] at E0
    exact ⟨d11, rows, w, _, _, by simp [g31, den, E0, outsOf], k11, ⟨by omega, hw, fun r hr => (w7 r hr).1, hst, m10.filt _, dj⟩, fun r hr => (w7 r hr).2⟩
theorem w32 {rows : List (List Int)} {st ju : List (Int × Int)} : g32 [landD rows st ju] = .ok (landD rows st ju) [landD rows st ju] := by
  obtain ⟨Γ', e, z, rfl⟩ := comp_filt (T := compT h32 [1] (.nm 1 false) none (.mk .list true (.var 1))) (fun _ Γ => ∃ z, Γ = [some (landD rows st ju), z]) (fun d => some d) (ds := rows.map fun r => .lst (r.map .int)) (acc := []) (k := 0) (Γ := [some (landD rows st ju), none]) (fun i d Γ hd ⟨z, hΓ⟩ => by
    subst hΓ
    rw [List.getElem?_map] at hd
    obtain ⟨r, hr, rfl⟩ := Option.map_eq_some_iff.mp hd
    refine ⟨_, ?_, some (.lst (r.map .int)), rfl⟩
    rw [compT_nm (by rfl)]
    simp [mk_row]) ⟨none, rfl⟩
  rw [fm_some] at e
  have it : itemsOf false (tabD rows) = some (rows.map fun r => .lst (r.map .int)) := rfl
  have e2 : compL (compT h32 [1] (.nm 1 false) none (.mk .list true (.var 1))) (rows.map fun r => .lst (r.map .int)) [] [some (.tup [tabD rows, movD st, movD ju]), none] = _ := e
  simp [g32, den, i32, outsOf, landD, it]
  rw [e2]
  simp [landD, mk_mov, tabD]
end CWL
namespace CWL
open PySem L2 CW
def isW : D → Bool
  | .int _ => true
  | _ => false
theorem isW_ns {d : D} (h : isW d = true) : ∃ i, d = .int i := by
  cases d <;> first | exact ⟨_, rfl⟩ | cases h
/-- a loop that leaves early where a test fails -/
theorem forL_all {turn : D → CW.Env → SR} {r : D} (p : D → Bool) (L L' : CW.Env → Prop) : ∀ {ds : List D} {Γ : CW.Env}, (∀ d ∈ ds, ∀ Γ, L Γ → (p d = true → ∃ Γ', turn d Γ = .nx Γ' ∧ L Γ') ∧ (p d = false → ∃ Γ', turn d Γ = .rt r Γ' ∧ L' Γ')) → L Γ →
    (ds.all p = true → ∃ Γ', forL turn ds Γ = .nx Γ' ∧ L Γ') ∧ (ds.all p = false → ∃ Γ', forL turn ds Γ = .rt r Γ' ∧ L' Γ')
  | [], Γ, _, h => ⟨fun _ => ⟨Γ, rfl, h⟩, fun h => by simp at h⟩
  | d :: ds, Γ, hs, h => by
    obtain ⟨a, b⟩ := hs d List.mem_cons_self Γ h
    rw [List.all_cons]
    cases hp : p d with
    | true =>
      obtain ⟨Γ', e, h'⟩ := a hp
      obtain ⟨q1, q2⟩ := forL_all p L L' (ds := ds) (fun x hx => hs x (List.mem_cons_of_mem _ hx)) h'
      rw [forL, e]
      simp only [Bool.true_and]
      exact ⟨q1, q2⟩
    | false =>
      obtain ⟨Γ', e, h'⟩ := b hp
      rw [forL, e]
      exact ⟨fun h => by simp at h, fun _ => ⟨Γ', rfl, h'⟩⟩
theorem u0 {d : D} (h : notScr d = true) : g0 [d] = .ok (.bl (isW d)) [d] := by
  cases d <;> first | (cases h; done) | simp [g0, den, i0, outsOf, isTy, isW]
theorem ne_nilL {ds : List D} : Cop.sem .ne (.lst ds) (.lst []) = some (!ds.isEmpty) := by
  have : eqOk (.lst ds) (.lst []) = true := by simp [eqOk, eqX]
  rw [c_ne, if_pos this]
  cases ds <;> simp [eqD, eqDs]
theorem eq_nilL {ds : List D} : Cop.sem .eq (.lst ds) (.lst []) = some ds.isEmpty := by
  have : eqOk (.lst ds) (.lst []) = true := by simp [eqOk, eqX]
  rw [c_eq, if_pos this]
  cases ds <;> simp [eqD, eqDs]
def len0 : List D → Nat
  | .lst r :: _ => r.length
  | _ => 0
def rowB (w : Nat) : D → Bool
  | .lst r => decide (1 ≤ r.length) && decide (r.length ≤ 6) && decide (r.length = w) && r.all isW
  | _ => false
def isTab : D → Bool
  | .lst rs => decide (1 ≤ rs.length) && decide (rs.length ≤ 6) && rs.all (rowB (len0 rs))
  | _ => false
theorem flt_not {p : D → Bool} : ∀ {ds : List D}, (ds.filter fun d => !p d).isEmpty = ds.all p
  | [] => rfl
  | d :: ds => by
    rw [List.all_cons, ← flt_not (ds := ds)]
    cases h : p d <;> simp [List.filter_cons, h]
def isLB : D → Bool
  | .lst _ => true
  | _ => false
def isTB : D → Bool
  | .tup _ => true
  | _ => false
theorem isList_of {d : D} (h : notScr d = true) : Bi.sem .isList [d] = some (.bl (isLB d)) := by
  cases d <;> first | (cases h; done) | rfl
theorem isTup_of {d : D} (h : notScr d = true) : Bi.sem .isTup [d] = some (.bl (isTB d)) := by
  cases d <;> first | (cases h; done) | rfl
abbrev b1 : List S := [.ite (.or (.not (.bi .isList [.var 1])) (.or (.not (.chain .le .le (.cn (.int 1)) (.bi .len [.var 1]) (.cn (.int 6)))) (.cmp .ne (.bi .len [.var 1]) (.bi .len [.ix (.var 0) (.cn (.int 0))])))) [.ret (.cn (.bl false))] [], .ite (.cmp .ne (.lcl false [2] (.nm 2 false) (.var 1) (some (.not (.call 0 [.var 2] []))) (.var 2)) (.lst [])) [.ret (.cn (.bl false))] []]
theorem ne_int {a b : Int} : Cop.sem .ne (.int a) (.int b) = some (!decide (a = b)) := by
  have : eqOk (.int a) (.int b) = true := rfl
  rw [c_ne, if_pos this]
  simp only [eqD]
  congr 2
theorem u1r {rs r x0 : List D} (h0 : rs[0]? = some (.lst x0)) (hx : ∀ x ∈ r, notScr x = true) {z : Option D} : evSs h1 b1 [some (.lst rs), some (.lst r), none] = if rowB x0.length (.lst r) = true then .nx [some (.lst rs), some (.lst r), none] else .rt (.bl false) [some (.lst rs), some (.lst r), none] := by
  have a0 : atI rs 0 = some (.lst x0) := by rw [show (0 : Int) = ((0 : Nat) : Int) from rfl, atI_nat, h0]
  have E := lcl_flt (φ := h1) (own := [2]) (tg := .nm 2 false) (c := some (.not (.call 0 [.var 2] []))) (elt := .var 2) (tp := false) (src := .var 1) (Γ := [some (.lst rs), some (.lst r), none]) (x := .lst r) id (fun d => !isW d) (fun d => [some (.lst rs), some (.lst r), some d]) (l := r) (by simp) (by rw [List.map_id]; rfl) (fun a ha => ⟨rfl, rfl, by
    have := u0 (hx a ha)
    simp [h1, this], by simp⟩)
  rw [List.map_id] at E
  by_cases c1 : (1 : Int) ≤ r.length
  · by_cases c2 : (r.length : Int) ≤ 6
    · by_cases c3 : (r.length : Int) = x0.length
      · have d1 : 1 ≤ r.length := by omega
        have d2 : r.length ≤ 6 := by omega
        have d3 : x0.length = r.length := by omega
        cases ha : r.all isW with
        | true =>
          have hf : (r.filter fun d => !isW d).isEmpty = true := by rw [flt_not]; exact ha
          simp [-r_lcl, -c_ne, ne_int, a0, c1, c2, E, ne_nilL, hf, rowB, d1, d2, d3, ha, -List.isEmpty_iff, -List.all_eq_true]
        | false =>
          have hf : (r.filter fun d => !isW d).isEmpty = false := by rw [flt_not]; exact ha
          simp [-r_lcl, -c_ne, ne_int, a0, c1, c2, E, ne_nilL, hf, rowB, d1, d2, d3, ha, -List.isEmpty_iff, -List.all_eq_true]
      · have d3 : ¬ r.length = x0.length := by omega
        simp [-r_lcl, -c_ne, ne_int, a0, c1, c2, c3, rowB, d3]
    · have d2 : ¬ r.length ≤ 6 := by omega
      simp [-r_lcl, -c_ne, ne_int, a0, c1, c2, rowB, d2]
  · have d1 : ¬ 1 ≤ r.length := by omega
    simp [-r_lcl, -c_ne, ne_int, a0, c1, rowB, d1]

def NsL (rs : List D) : Prop := ∀ r ∈ rs, notScr r = true ∧ ∀ xs, r = .lst xs → ∀ x ∈ xs, notScr x = true
theorem u1n {rs : List D} {r : D} (hn : notScr r = true) (hl : ∀ xs, r ≠ .lst xs) : evSs h1 b1 [some (.lst rs), some r, none] = .rt (.bl false) [some (.lst rs), some r, none] := by
  have e := isList_of hn
  cases r <;> first | (exact absurd rfl (hl _)) | (cases hn; done) | simp [e, isLB]
theorem rowB_n {w : Nat} {r : D} (hl : ∀ xs, r ≠ .lst xs) : rowB w r = false := by
  cases r <;> first | (exact absurd rfl (hl _)) | rfl
theorem u1 {d : D} (h : notScr d = true) (h2 : ∀ rs, d = .lst rs → NsL rs) : g1 [d] = .ok (.bl (isTab d)) [d] := by
  by_cases hd : ∃ rs, d = .lst rs
  · obtain ⟨rs, rfl⟩ := hd
    replace h2 := h2 rs rfl
    have i1e : i1 = [.ite (.or (.not (.bi .isList [.var 0])) (.not (.chain .le .le (.cn (.int 1)) (.bi .len [.var 0]) (.cn (.int 6))))) [.ret (.cn (.bl false))] [], .forl false (.nm 1 false) (.var 0) b1, .ret (.cn (.bl true))] := rfl
    by_cases c1 : (1 : Int) ≤ rs.length
    · by_cases c2 : (rs.length : Int) ≤ 6
      · have d1 : 1 ≤ rs.length := by omega
        have d2 : rs.length ≤ 6 := by omega
        have fin : ∀ (b : Bool) (Γ' : CW.Env), (forL (turnOf h1 (.nm 1 false) b1) rs [some (.lst rs), none, none] = if b = true then .nx Γ' else .rt (.bl false) Γ') → CW.get Γ' 0 = some (.lst rs) → isTab (.lst rs) = b → g1 [.lst rs] = .ok (.bl (isTab (.lst rs))) [.lst rs] := by
          intro b Γ' e g hb
          have it : itemsOf false (.lst rs) = some rs := rfl
          cases b with
          | true =>
            simp only [if_true] at e
            simp [g1, den, i1e, c1, c2, it, outsOf, hb]
            rw [e]
            simp
          | false =>
            simp only [Bool.false_eq_true, if_false] at e
            simp [g1, den, i1e, c1, c2, it, outsOf, hb]
            rw [e]
            simp
        obtain ⟨r0, rest, rfl⟩ : ∃ r0 rest, rs = r0 :: rest := by
          cases rs with
          | nil => simp at d1
          | cons a b => exact ⟨a, b, rfl⟩
        by_cases hr : ∃ x0, r0 = .lst x0
        · obtain ⟨x0, rfl⟩ := hr
          have key := forL_all (turn := turnOf h1 (.nm 1 false) b1) (r := .bl false) (rowB x0.length) (fun Γ => ∃ z1, Γ = [some (.lst (.lst x0 :: rest)), z1, none]) (fun Γ => ∃ z1, Γ = [some (.lst (.lst x0 :: rest)), z1, none]) (ds := .lst x0 :: rest) (Γ := [some (.lst (.lst x0 :: rest)), none, none]) (fun d hd Γ hΓ => by
            obtain ⟨z1, rfl⟩ := hΓ
            obtain ⟨hn, hx⟩ := h2 d hd
            rw [turn_nm (by rfl)]
            show (_ → ∃ Γ', evSs h1 b1 [some (.lst (.lst x0 :: rest)), some d, none] = _ ∧ _) ∧ (_ → ∃ Γ', evSs h1 b1 [some (.lst (.lst x0 :: rest)), some d, none] = _ ∧ _)
            by_cases hl : ∃ xs, d = .lst xs
            · obtain ⟨xs, rfl⟩ := hl
              have e := u1r (rs := .lst x0 :: rest) (r := xs) (x0 := x0) rfl (hx xs rfl) (z := none)
              rw [e]
              exact ⟨fun hp => ⟨_, if_pos hp, _, rfl⟩, fun hp => ⟨_, by rw [hp]; rfl, _, rfl⟩⟩
            · have hl' : ∀ xs, d ≠ .lst xs := fun xs e => hl ⟨xs, e⟩
              rw [u1n hn hl', rowB_n hl']
              exact ⟨fun hp => by simp at hp, fun _ => ⟨_, rfl, _, rfl⟩⟩) ⟨none, rfl⟩
          have ht : isTab (.lst (.lst x0 :: rest)) = (D.lst x0 :: rest).all (rowB x0.length) := by
            simp only [isTab, decide_eq_true d1, decide_eq_true d2, Bool.true_and, len0]
          cases hb : (D.lst x0 :: rest).all (rowB x0.length) with
          | true =>
            obtain ⟨Γ', e, z, rfl⟩ := key.1 hb
            exact fin true _ (by rw [e]; rfl) rfl (by rw [ht, hb])
          | false =>
            obtain ⟨Γ', e, z, rfl⟩ := key.2 hb
            exact fin false _ (by rw [e]; rfl) rfl (by rw [ht, hb])
        · have hl' : ∀ xs, r0 ≠ .lst xs := fun xs e => hr ⟨xs, e⟩
          refine fin false [some (.lst (r0 :: rest)), some r0, none] ?_ rfl ?_
          · rw [forL, turn_nm (by rfl)]
            show (match evSs h1 b1 [some (.lst (r0 :: rest)), some r0, none] with | .nx Γ => _ | .bk Γ => _ | r => r) = _
            rw [u1n (h2 r0 List.mem_cons_self).1 hl']
            rfl
          · have : (r0 :: rest).all (rowB (len0 (r0 :: rest))) = false := by rw [List.all_cons, rowB_n hl', Bool.false_and]
            simp only [isTab, this, Bool.and_false]
      · have d2 : ¬ rs.length ≤ 6 := by omega
        simp [g1, den, i1e, outsOf, c1, c2, isTab, d2]
    · have d1 : ¬ 1 ≤ rs.length := by omega
      simp [g1, den, i1e, outsOf, c1, isTab, d1]
  · have e := isList_of h
    have et : isTab d = false := by cases d <;> first | rfl | exact absurd ⟨_, rfl⟩ hd
    have ef : isLB d = false := by cases d <;> first | rfl | exact absurd ⟨_, rfl⟩ hd
    rw [ef] at e
    simp [g1, den, i1, outsOf, e, et]

/-! moves -/
def isMv : D → Bool
  | .tup [.int a, .int b] => decide (-5 ≤ a) && decide (a ≤ 5) && (decide (-5 ≤ b) && decide (b ≤ 5)) && !(decide (a = 0) && decide (b = 0))
  | _ => false
theorem isMv_pair {a b : Int} : isMv (.tup [.int a, .int b]) = true ↔ okM (a, b) := by
  simp only [isMv, okM, Bool.and_eq_true, Bool.not_eq_true', Bool.and_eq_false_iff, decide_eq_true_eq, decide_eq_false_iff_not]
  constructor
  · intro h
    refine ⟨h.1.1, h.1.2, ?_⟩
    omega
  · intro h
    exact ⟨⟨h.1, h.2.1⟩, by have := h.2.2; omega⟩
theorem isMv_of {d : D} (h : isMv d = true) : ∃ p : Int × Int, d = pairD p ∧ okM p := by
  unfold isMv at h
  split at h
  · rename_i a b
    exact ⟨(a, b), rfl, isMv_pair.mp (by simpa [isMv] using h)⟩
  · cases h
end CWL
namespace CWL
open PySem L2 CW
def NsT (xs : List D) : Prop := ∀ x ∈ xs, notScr x = true
theorem ne_pairI {a b c d : Int} : Cop.sem .ne (.tup [.int a, .int b]) (.tup [.int c, .int d]) = some (!(decide (a = c) && decide (b = d))) := by
  have : eqOk (.tup [.int a, .int b]) (.tup [.int c, .int d]) = true := by simp [eqOk, D.shp]
  rw [c_ne, if_pos this]
  simp [eqD, eqDs]
  congr
theorem u2 {d : D} (h : notScr d = true) (hx : ∀ xs, d = .tup xs → NsT xs) : g2 [d] = .ok (.bl (isMv d)) [d] := by
  by_cases hd : ∃ xs, d = .tup xs
  · obtain ⟨xs, rfl⟩ := hd
    have hz := hx xs rfl
    clear hx
    match xs, hz with
    | [], _ => simp [g2, den, i2, outsOf, isMv, -c_ne, ne_int]
    | [a], _ => simp [g2, den, i2, outsOf, isMv, -c_ne, ne_int]
    | a :: b :: c :: r, _ =>
      have hl : ¬ ((r.length : Int) + 1 + 1 + 1 = 2) := by omega
      simp [g2, den, i2, outsOf, isMv, -c_ne, ne_int, hl]
    | [a, b], hz =>
      have ea := u0 (hz a (by simp))
      have eb := u0 (hz b (by simp))
      cases ha : isW a with
      | false =>
        have : isMv (.tup [a, b]) = false := by cases a <;> first | rfl | cases ha
        rw [ha] at ea
        simp [g2, den, i2, h2, outsOf, this, -c_ne, ne_int, ea, putP]
      | true =>
        obtain ⟨i, rfl⟩ := isW_ns ha
        cases hb : isW b with
        | false =>
          have : isMv (.tup [.int i, b]) = false := by cases b <;> first | rfl | cases hb
          rw [ha] at ea
          rw [hb] at eb
          simp [g2, den, i2, h2, outsOf, this, -c_ne, ne_int, ea, eb, putP]
        | true =>
          obtain ⟨j, rfl⟩ := isW_ns hb
          rw [ha] at ea
          rw [hb] at eb
          by_cases c1 : (if i < 0 then -i else i) ≤ 5
          · by_cases c2 : (if j < 0 then -j else j) ≤ 5
            · have b1 : -5 ≤ i ∧ i ≤ 5 := by split at c1 <;> omega
              have b2 : -5 ≤ j ∧ j ≤ 5 := by split at c2 <;> omega
              simp [g2, den, i2, h2, outsOf, -c_ne, ne_int, ne_pairI, ea, eb, putP, c1, c2, isMv, b1, b2]
            · have b2 : ¬ (-5 ≤ j ∧ j ≤ 5) := by split at c2 <;> omega
              have m : isMv (.tup [.int i, .int j]) = false := by
                cases hm : isMv (.tup [.int i, .int j]) with
                | false => rfl
                | true => exact absurd (isMv_pair.mp hm).2.1 b2
              simp [g2, den, i2, h2, outsOf, -c_ne, ne_int, ea, eb, putP, c1, c2, m]
          · have b1 : ¬ (-5 ≤ i ∧ i ≤ 5) := by split at c1 <;> omega
            have m : isMv (.tup [.int i, .int j]) = false := by
              cases hm : isMv (.tup [.int i, .int j]) with
              | false => rfl
              | true => exact absurd (isMv_pair.mp hm).1 b1
            simp [g2, den, i2, h2, outsOf, -c_ne, ne_int, ea, eb, putP, c1, m]
  · have e := isTup_of h
    have et : isMv d = false := by cases d <;> first | rfl | exact absurd ⟨_, rfl⟩ hd
    have ef : isTB d = false := by cases d <;> first | rfl | exact absurd ⟨_, rfl⟩ hd
    rw [ef] at e
    simp [g2, den, i2, outsOf, e, et]
end CWL
namespace CWL
open PySem L2 CW
theorem r_foreK {φ : FEnv} {Γ : CW.Env} {tg : Tg} {e : CW.E} {b : List S} : evS φ (.fore tg e b) Γ = (evE φ e Γ).toS fun x Γ => (R.ofo (itemsOf false x) Γ).toS fun ds Γ => forL (turnOf φ tg b) (numD ds) Γ := by simp only [evS]; rfl
theorem numD_at {ds : List D} {i : Nat} {d : D} (h : (numD ds)[i]? = some d) : ∃ x, ds[i]? = some x ∧ d = .tup [.int (i : Nat), x] := by
  unfold numD at h
  rw [List.getElem?_map, List.getElem?_zipIdx] at h
  cases e : ds[i]? with
  | none => rw [e] at h; cases h
  | some x =>
    rw [e] at h
    simp at h
    exact ⟨x, rfl, h.symm⟩
theorem numD_len {ds : List D} : (numD ds).length = ds.length := by unfold numD; simp
def ltB : D → D → Bool
  | .tup [.int a, .int b], .tup [.int c, .int d] => if a = c then decide (b < d) else decide (a < c)
  | _, _ => false
def gMv (ds : List D) (i : Nat) : Bool := match ds[i]? with
  | some d => isMv d && (i == 0 || (match ds[i - 1]? with | some c => ltB c d | none => false))
  | none => false
def areMv : D → Bool
  | .lst ds => decide (ds.length ≤ 8) && (List.range ds.length).all (gMv ds)
  | _ => false
theorem ltB_pair {p q : Int × Int} : ltB (pairD p) (pairD q) = if p.1 = q.1 then decide (p.2 < q.2) else decide (p.1 < q.1) := rfl
theorem ge_pairs {p q : Int × Int} : Cop.sem .ge (pairD p) (pairD q) = some (!ltB (pairD p) (pairD q)) := by
  rw [ltB_pair]
  show some (if p.1 = q.1 then decide (q.2 ≤ p.2) else decide (q.1 ≤ p.1)) = _
  congr 1
  split
  · rw [← decide_not]; congr 1; simp
  · rw [← decide_not]; congr 1; simp
theorem lt_pairs {p q : Int × Int} : Cop.sem .lt (pairD p) (pairD q) = some (ltB (pairD p) (pairD q)) := by
  rw [ltB_pair]
  show (some (HT.lexLt [p.1, p.2] [q.1, q.2])) = _
  congr 1
  by_cases h : p.1 = q.1
  · simp [HT.lexLt, h]
    omega
  · simp [HT.lexLt, h]
theorem mvs_of {ds : List D} (h : ds.all isMv = true) : ∃ ps : List (Int × Int), ds = ps.map pairD ∧ ∀ p ∈ ps, okM p := by
  induction ds with
  | nil => exact ⟨[], rfl, by simp⟩
  | cons d ds ih =>
    rw [List.all_cons, Bool.and_eq_true] at h
    obtain ⟨ps, rfl, ho⟩ := ih h.2
    obtain ⟨p, rfl, hp⟩ := isMv_of h.1
    exact ⟨p :: ps, rfl, by simpa using ⟨hp, fun a b hab => ho (a, b) hab⟩⟩
theorem isMv_p {p : Int × Int} (h : okM p) : isMv (pairD p) = true := isMv_pair.mpr h
/-- where the moves do not rise -/
def fall (ps : List (Int × Int)) : D → Option D
  | .int k => match ps[(k - 1).toNat]?, ps[k.toNat]? with
    | some p, some q => if ltB (pairD p) (pairD q) then none else some (.int k)
    | _, _ => none
  | _ => none
theorem u3c {ps : List (Int × Int)} {i : Nat} {p q : Int × Int} (hp : ps[i]? = some p) (hq : ps[i + 1]? = some q) {z : Option D} : compT h3 [2] (.nm 2 false) (some (.cmp .ge (.ix (.var 0) (.bin .sub (.var 2) (.cn (.int 1)))) (.ix (.var 0) (.var 2)))) (.var 2) (.int (1 + i)) [some (.lst (ps.map pairD)), z, none] = .ok (fall ps (.int (1 + i))) [some (.lst (ps.map pairD)), z, some (.int (1 + i))] := by
  have a1 : atI (ps.map pairD) (1 + (i : Int) - 1) = some (pairD p) := by
    rw [show (1 + (i : Int) - 1) = (i : Int) by omega, atI_nat, List.getElem?_map, hp]; rfl
  have a2 : atI (ps.map pairD) (1 + (i : Int)) = some (pairD q) := by
    rw [show (1 + (i : Int)) = ((i + 1 : Nat) : Int) by omega, atI_nat, List.getElem?_map, hq]; rfl
  have f1 : (1 + (i : Int) - 1).toNat = i := by omega
  have f2 : (1 + (i : Int)).toNat = i + 1 := by omega
  have fe : fall ps (.int (1 + i)) = if ltB (pairD p) (pairD q) then none else some (.int (1 + i)) := by
    simp only [fall, f1, f2, hp, hq]
  rw [fe, compT_nm (by rfl)]
  simp [a1, a2, ge_pairs]
  cases ltB (pairD p) (pairD q) <;> simp
theorem up_all {ps : List (Int × Int)} (ho : ∀ p ∈ ps, okM p) : (((rngL 1 (ps.length - 1)).filterMap (fall ps)).isEmpty) = (List.range ps.length).all (gMv (ps.map pairD)) := by
  rw [Bool.eq_iff_iff, List.isEmpty_iff, List.filterMap_eq_nil_iff, List.all_eq_true]
  constructor
  · intro h i hi
    rw [List.mem_range] at hi
    have e0 : (ps.map pairD)[i]? = some (pairD ps[i]) := by rw [List.getElem?_map, List.getElem?_eq_getElem hi]; rfl
    unfold gMv
    rw [e0]
    show (isMv (pairD ps[i]) && _) = true
    rw [isMv_p (ho _ (List.getElem_mem hi)), Bool.true_and]
    cases i with
    | zero => rfl
    | succ j =>
      have hj : j < ps.length := by omega
      have e1 : (ps.map pairD)[j + 1 - 1]? = some (pairD ps[j]) := by rw [Nat.add_sub_cancel, List.getElem?_map, List.getElem?_eq_getElem hj]; rfl
      rw [e1]
      have := h (.int (1 + j)) (by unfold rngL; rw [List.mem_map]; exact ⟨j, List.mem_range.mpr (by omega), rfl⟩)
      unfold fall at this
      simp only [show (1 + (j : Int) - 1).toNat = j by omega, show (1 + (j : Int)).toNat = j + 1 by omega, List.getElem?_eq_getElem hj, List.getElem?_eq_getElem hi] at this
      cases hb : ltB (pairD ps[j]) (pairD ps[j + 1]) with
      | true => simp [hb]
      | false => rw [hb] at this; simp at this
  · intro h d hd
    unfold rngL at hd
    rw [List.mem_map] at hd
    obtain ⟨j, hj, rfl⟩ := hd
    rw [List.mem_range] at hj
    have hj1 : j < ps.length := by omega
    have hj2 : j + 1 < ps.length := by omega
    have := h (j + 1) (List.mem_range.mpr hj2)
    unfold gMv at this
    have e0 : (ps.map pairD)[j + 1]? = some (pairD ps[j + 1]) := by rw [List.getElem?_map, List.getElem?_eq_getElem hj2]; rfl
    have e1 : (ps.map pairD)[j + 1 - 1]? = some (pairD ps[j]) := by rw [Nat.add_sub_cancel, List.getElem?_map, List.getElem?_eq_getElem hj1]; rfl
    rw [e0, e1] at this
    simp only [Bool.and_eq_true, Bool.or_eq_true] at this
    have hb : ltB (pairD ps[j]) (pairD ps[j + 1]) = true := by
      rcases this.2 with h | h
      · simp at h
      · exact h
    unfold fall
    simp only [show (1 + (j : Int) - 1).toNat = j by omega, show (1 + (j : Int)).toNat = j + 1 by omega, List.getElem?_eq_getElem hj1, List.getElem?_eq_getElem hj2, hb, if_true]
theorem areMv_bad {ds : List D} (h : ds.all isMv = false) : (List.range ds.length).all (gMv ds) = false := by
  cases hh : (List.range ds.length).all (gMv ds) with
  | false => rfl
  | true =>
    exfalso
    rw [List.all_eq_true] at hh
    have : ds.all isMv = true := by
      rw [List.all_eq_true]
      intro d hd
      obtain ⟨i, hi, rfl⟩ := List.mem_iff_getElem.mp hd
      have := hh i (List.mem_range.mpr hi)
      unfold gMv at this
      rw [List.getElem?_eq_getElem hi] at this
      simp only [Bool.and_eq_true] at this
      exact this.1
    rw [this] at h
    cases h
def NsM (ds : List D) : Prop := ∀ d ∈ ds, notScr d = true ∧ ∀ xs, d = .tup xs → NsT xs
theorem u3 {d : D} (h : notScr d = true) (hx : ∀ ds, d = .lst ds → NsM ds) : g3 [d] = .ok (.bl (areMv d)) [d] := by
  by_cases hd : ∃ ds, d = .lst ds
  · obtain ⟨ds, rfl⟩ := hd
    have hz := hx ds rfl
    clear hx
    by_cases c1 : 8 < (ds.length : Int)
    · have : ¬ ds.length ≤ 8 := by omega
      simp [g3, den, i3, outsOf, c1, areMv, this]
    · have c2 : ds.length ≤ 8 := by omega
      have E := lcl_flt (φ := h3) (own := [1]) (tg := .nm 1 false) (c := some (.not (.call 2 [.var 1] []))) (elt := .var 1) (tp := false) (src := .var 0) (Γ := [some (.lst ds), none, none]) (x := .lst ds) id (fun d => !isMv d) (fun d => [some (.lst ds), some d, none]) (l := ds) (by simp) (by rw [List.map_id]; rfl) (fun a ha => ⟨rfl, rfl, by
        have := u2 (hz a ha).1 (hz a ha).2
        simp [h3, this], by simp⟩)
      rw [List.map_id] at E
      cases ha : ds.all isMv with
      | false =>
        have hf : (ds.filter fun d => !isMv d).isEmpty = false := by rw [flt_not]; exact ha
        have am : areMv (.lst ds) = false := by simp only [areMv, areMv_bad ha, Bool.and_false]
        simp [g3, den, i3, outsOf, c1, -r_lcl, -c_ne, E, ne_nilL, hf, am, -List.isEmpty_iff, -List.all_eq_true]
      | true =>
        have hf : (ds.filter fun d => !isMv d).isEmpty = true := by rw [flt_not]; exact ha
        obtain ⟨ps, rfl, ho⟩ := mvs_of ha
        rw [List.length_map] at c1 c2
        have E2 := lcr_p (φ := h3) (own := [2]) (tg := .nm 2 false) (c := some (.cmp .ge (.ix (.var 0) (.bin .sub (.var 2) (.cn (.int 1)))) (.ix (.var 0) (.var 2)))) (elt := .var 2) (Γ := [some (.lst (ps.map pairD)), none, none]) (es := [.cn (.int 1), .bi .len [.var 0]]) (as := [.int 1, .int ps.length]) (p := (1, ps.length - 1)) (fall ps) (by simp) (rng1 c2) (fun d hd => by
          obtain ⟨j, hj, rfl⟩ := List.mem_map.mp hd
          rw [List.mem_range] at hj
          exact ⟨_, u3c (List.getElem?_eq_getElem (show j < ps.length by omega)) (List.getElem?_eq_getElem (show j + 1 < ps.length by omega)), rfl⟩)
        have am : areMv (.lst (ps.map pairD)) = ((rngL 1 (ps.length - 1)).filterMap (fall ps)).isEmpty := by
          simp only [areMv, List.length_map, decide_eq_true c2, Bool.true_and, up_all ho]
        rw [am]
        simp [g3, den, i3, outsOf, c1, -r_lcl, -r_lcr, -c_ne, -c_eq, E, E2, ne_nilL, eq_nilL, hf, -List.isEmpty_iff, -List.all_eq_true, -List.filterMap_eq_nil_iff]
  · have e := isList_of h
    have et : areMv d = false := by cases d <;> first | rfl | exact absurd ⟨_, rfl⟩ hd
    have ef : isLB d = false := by cases d <;> first | rfl | exact absurd ⟨_, rfl⟩ hd
    rw [ef] at e
    simp [g3, den, i3, outsOf, e, et, -b_isList]
end CWL
namespace CWL
open PySem L2 CW
theorem nos_ns {d : D} (h : d.nos = true) : notScr d = true := by
  cases d <;> first | rfl | (simp [D.nos] at h)
theorem noss_mem : ∀ {ds : List D}, D.noss ds = true → ∀ d ∈ ds, d.nos = true
  | [], _, d, h => nomatch h
  | e :: ds, h, d, hm => by
    simp only [D.noss, Bool.and_eq_true] at h
    rcases List.mem_cons.mp hm with rfl | hm
    · exact h.1
    · exact noss_mem h.2 d hm
theorem nos_l {ds : List D} (h : (D.lst ds).nos = true) : ∀ d ∈ ds, d.nos = true := noss_mem (by simpa [D.nos] using h)
theorem nos_t {ds : List D} (h : (D.tup ds).nos = true) : ∀ d ∈ ds, d.nos = true := noss_mem (by simpa [D.nos] using h)
theorem nos_L {d : D} (h : d.nos = true) : ∀ rs, d = .lst rs → NsL rs := fun rs e => by
  subst e
  exact fun r hr => ⟨nos_ns (nos_l h r hr), fun xs e x hx => by subst e; exact nos_ns (nos_l (nos_l h _ hr) x hx)⟩
theorem nos_M {d : D} (h : d.nos = true) : ∀ rs, d = .lst rs → NsM rs := fun rs e => by
  subst e
  exact fun r hr => ⟨nos_ns (nos_l h r hr), fun xs e x hx => by subst e; exact nos_ns (nos_t (nos_l h _ hr) x hx)⟩
def disjB : D → D → Bool
  | .lst ss, .lst js => (ss.filter fun z => js.any fun y => eqD y z).isEmpty
  | _, _ => true
def landB : D → Bool
  | .tup [t, s, j] => isTab t && areMv s && areMv j && disjB s j
  | _ => false
theorem areMv_of {d : D} (h : areMv d = true) : ∃ ps : List (Int × Int), d = .lst (ps.map pairD) ∧ ∀ p ∈ ps, okM p := by
  cases d with
  | lst ds =>
    simp only [areMv, Bool.and_eq_true] at h
    cases ha : ds.all isMv with
    | true =>
      obtain ⟨ps, rfl, ho⟩ := mvs_of ha
      exact ⟨ps, rfl, ho⟩
    | false =>
      rw [areMv_bad ha] at h
      exact absurd h.2 (by simp)
  | _ => cases h
theorem isin_p {p : Int × Int} {qs : List (Int × Int)} : Cop.sem .isin (pairD p) (.lst (qs.map pairD)) = some ((qs.map pairD).any fun y => eqD y (pairD p)) := by
  show (if (pairD p).shp 64 && (D.lst (qs.map pairD)).shp 64 then some ((qs.map pairD).any fun z => eqD z (pairD p)) else none) = _
  rw [shp64p, shp64]
  rfl
theorem flt_map {ps : List (Int × Int)} {f : D → Bool} : (ps.filter fun p => f (pairD p)).map pairD = (ps.map pairD).filter f := by
  rw [List.filter_map]
  rfl
theorem u4 {d : D} (h : d.nos = true) : g4 [d] = .ok (.bl (landB d)) [d] := by
  by_cases hd : ∃ xs, d = .tup xs
  · obtain ⟨xs, rfl⟩ := hd
    have hx := nos_t h
    match xs, hx with
    | [], _ => simp [g4, den, i4, outsOf, landB, -c_ne, ne_int]
    | [a], _ => simp [g4, den, i4, outsOf, landB, -c_ne, ne_int]
    | [a, b], _ => simp [g4, den, i4, outsOf, landB, -c_ne, ne_int]
    | a :: b :: c :: e :: r, _ =>
      have hl : ¬ ((r.length : Int) + 1 + 1 + 1 + 1 = 3) := by omega
      simp [g4, den, i4, outsOf, landB, -c_ne, ne_int, hl]
    | [t, s, j], hx =>
      have nt := hx t (by simp)
      have ns := hx s (by simp)
      have nj := hx j (by simp)
      have e1 := u1 (nos_ns nt) (nos_L nt)
      have e2 := u3 (nos_ns ns) (nos_M ns)
      have e3 := u3 (nos_ns nj) (nos_M nj)
      cases h1 : isTab t with
      | false =>
        rw [h1] at e1
        simp [g4, den, i4, h4, outsOf, landB, -c_ne, ne_int, e1, h1]
      | true =>
        cases h2 : areMv s with
        | false =>
          rw [h1] at e1
          rw [h2] at e2
          simp [g4, den, i4, h4, outsOf, landB, -c_ne, ne_int, e1, e2, h1, h2]
        | true =>
          cases h3 : areMv j with
          | false =>
            rw [h1] at e1
            rw [h2] at e2
            rw [h3] at e3
            simp [g4, den, i4, h4, outsOf, landB, -c_ne, ne_int, e1, e2, e3, h1, h2, h3]
          | true =>
            rw [h1] at e1
            rw [h2] at e2
            rw [h3] at e3
            obtain ⟨ps, rfl, ho⟩ := areMv_of h2
            obtain ⟨qs, rfl, hq⟩ := areMv_of h3
            have E := lcl_flt (φ := h4) (own := [1]) (tg := .nm 1 false) (c := some (.cmp .isin (.var 1) (.ix (.var 0) (.cn (.int 2))))) (elt := .var 1) (tp := false) (src := .ix (.var 0) (.cn (.int 1))) (Γ := [some (.tup [t, .lst (ps.map pairD), .lst (qs.map pairD)]), none]) (x := .lst (ps.map pairD)) pairD (fun p => (qs.map pairD).any fun y => eqD y (pairD p)) (fun p => [some (.tup [t, .lst (ps.map pairD), .lst (qs.map pairD)]), some (pairD p)]) (l := ps) (by simp) rfl (fun a ha => ⟨rfl, rfl, by simp [isin_p], by simp⟩)
            have am : landB (.tup [t, .lst (ps.map pairD), .lst (qs.map pairD)]) = ((ps.filter fun p => (qs.map pairD).any fun y => eqD y (pairD p)).map pairD).isEmpty := by
              simp only [landB, h1, h2, h3, Bool.true_and, disjB]
              rw [flt_map (f := fun z => (qs.map pairD).any fun y => eqD y z)]
            rw [am]
            generalize hw : ((ps.filter fun p => (qs.map pairD).any fun y => eqD y (pairD p)).map pairD) = W at *
            have f1 : h4.f 1 [t] = .ok (.bl true) [t] := e1
            have f2 : h4.f 3 [.lst (ps.map pairD)] = .ok (.bl true) [.lst (ps.map pairD)] := e2
            have f3 : h4.f 3 [.lst (qs.map pairD)] = .ok (.bl true) [.lst (qs.map pairD)] := e3
            simp [g4, den, i4, outsOf, -c_ne, -c_eq, -r_lcl, ne_int, eq_nilL, f1, f2, f3, E, -List.isEmpty_iff]
  · have e := isTup_of (nos_ns h)
    have et : landB d = false := by cases d <;> first | rfl | exact absurd ⟨_, rfl⟩ hd
    have ef : isTB d = false := by cases d <;> first | rfl | exact absurd ⟨_, rfl⟩ hd
    rw [ef] at e
    simp [g4, den, i4, outsOf, e, et, -b_isTup]
end CWL
namespace CWL
open PySem L2 CW
def leafB : D → Bool
  | .non => true
  | .bl _ => true
  | .int i => decide (i.natAbs < 10 ^ 39)
  | .str s => decide (s.cps.size ≤ 3) && s.cps.toList.all fun c => decide (c < 16 ^ 8)
  | .dct [] [] => true
  | _ => false
def wf : List Nat → D → Bool
  | b :: bs, .lst ds => decide (ds.length ≤ b) && ds.all (wf bs)
  | b :: bs, .tup ds => decide (ds.length ≤ b) && ds.all (wf bs)
  | _, d => leafB d
/-- how long what is shown may be -/
def bnd : List Nat → Nat
  | [] => 40
  | b :: bs => b * (bnd bs + 2) + 43
theorem bnd_40 : ∀ bs, 40 ≤ bnd bs
  | [] => Nat.le_refl _
  | b :: bs => by simp only [bnd]; omega
def fineD (n m : Nat) (d : D) : Prop := d.nos = true ∧ d.py.showable = true ∧ d.py.depth ≤ n ∧ d.py.shown.length ≤ m
theorem fineD.mono {n m n' m' : Nat} {d : D} (h : fineD n m d) (hn : n ≤ n') (hm : m ≤ m') : fineD n' m' d := ⟨h.1, h.2.1, Nat.le_trans h.2.2.1 hn, Nat.le_trans h.2.2.2 hm⟩
theorem leaf_fine {d : D} (h : leafB d = true) : fineD 1 40 d := by
  unfold leafB at h
  split at h
  · exact ⟨rfl, rfl, by simp [D.py, PyData.depth], by decide⟩
  · rename_i b
    refine ⟨rfl, rfl, by simp [D.py, PyData.depth], ?_⟩
    cases b <;> decide
  · rename_i i
    rw [decide_eq_true_eq] at h
    refine ⟨rfl, ?_, by simp [D.py, PyData.depth], ?_⟩
    · simp only [D.py, PyData.showable, decide_eq_true_eq]
      exact PySem.Spec.log2_small (Nat.lt_of_lt_of_le h (by decide))
    · have e := int_text_length_le10 (k := 39) (by decide) h
      show (Str.ofString (toString i)).length ≤ 40
      rw [ofString_length]
      exact e
  · rename_i s
    rw [Bool.and_eq_true, decide_eq_true_eq, List.all_eq_true] at h
    refine ⟨rfl, rfl, by simp [D.py, PyData.depth], ?_⟩
    have q := PySem.StrLaws.reprText_len s (fun c hc => by simpa using h.2 c hc)
    have e : s.length = s.cps.size := rfl
    have h1 := h.1
    show (reprText s).length ≤ 40
    omega
  · exact ⟨rfl, rfl, by simp [D.py, PyData.depth, D.pys, PyData.depthKv], by decide⟩
  · cases h
theorem all_fine {n m : Nat} : ∀ {ds : List D}, (∀ d ∈ ds, fineD n m d) → D.noss ds = true ∧ PyData.showableAll (D.pys ds) = true ∧ PyData.depthAll (D.pys ds) ≤ n ∧ ((PyData.shownAll (D.pys ds)).map (·.length)).sum ≤ ds.length * m ∧ (PyData.shownAll (D.pys ds)).length = ds.length
  | [], _ => ⟨rfl, rfl, by simp [D.pys, PyData.depthAll], by simp [D.pys, PyData.shownAll], rfl⟩
  | d :: ds, h => by
    obtain ⟨a1, a2, a3, a4⟩ := h d List.mem_cons_self
    obtain ⟨b1, b2, b3, b4, b5⟩ := all_fine (ds := ds) (n := n) (m := m) (fun x hx => h x (List.mem_cons_of_mem _ hx))
    have e : (ds.length + 1) * m = ds.length * m + m := Nat.add_one_mul ..
    refine ⟨by simp only [D.noss, a1, b1, Bool.and_self], by simp only [D.pys, PyData.showableAll, a2, b2, Bool.and_self], ?_, ?_, ?_⟩
    · simp only [D.pys, PyData.depthAll]; omega
    · simp only [D.pys, PyData.shownAll, List.map_cons, List.sum_cons, List.length_cons, e]; omega
    · simp only [D.pys, PyData.shownAll, List.length_cons, b5]
theorem wf_fine : ∀ {bs : List Nat} {d : D}, wf bs d = true → fineD (bs.length + 1) (bnd bs) d
  | [], d, h => leaf_fine (by cases d <;> exact h)
  | b :: bs, .lst ds, h => by
    simp only [wf, Bool.and_eq_true, decide_eq_true_eq, List.all_eq_true] at h
    obtain ⟨a1, a2, a3, a4, a5⟩ := all_fine (fun d hd => wf_fine (h.2 d hd))
    refine ⟨by simpa [D.nos] using a1, by simpa [D.py, PyData.showable] using a2, by simp only [D.py, PyData.depth, List.length_cons]; omega, ?_⟩
    have l := listText_len_le (PyData.shownAll (D.pys ds))
    have hm : ds.length * (bnd bs + 2) ≤ b * (bnd bs + 2) := Nat.mul_le_mul_right _ h.1
    have e : ds.length * (bnd bs + 2) = ds.length * bnd bs + ds.length * 2 := Nat.mul_add ..
    simp only [D.py, PyData.shown, bnd]
    omega
  | b :: bs, .tup ds, h => by
    simp only [wf, Bool.and_eq_true, decide_eq_true_eq, List.all_eq_true] at h
    obtain ⟨a1, a2, a3, a4, a5⟩ := all_fine (fun d hd => wf_fine (h.2 d hd))
    refine ⟨by simpa [D.nos] using a1, by simpa [D.py, PyData.showable] using a2, by simp only [D.py, PyData.depth, List.length_cons]; omega, ?_⟩
    have l := tupleText_len_le (PyData.shownAll (D.pys ds))
    have hm : ds.length * (bnd bs + 2) ≤ b * (bnd bs + 2) := Nat.mul_le_mul_right _ h.1
    have e : ds.length * (bnd bs + 2) = ds.length * bnd bs + ds.length * 2 := Nat.mul_add ..
    simp only [D.py, PyData.shown, bnd]
    omega
  | b :: bs, .non, h => (leaf_fine h).mono (by simp) (bnd_40 _)
  | b :: bs, .bl _, h => (leaf_fine h).mono (by simp) (bnd_40 _)
  | b :: bs, .int _, h => (leaf_fine h).mono (by simp) (bnd_40 _)
  | b :: bs, .str _, h => (leaf_fine h).mono (by simp) (bnd_40 _)
  | b :: bs, .scr _, h => (leaf_fine h).mono (by simp) (bnd_40 _)
  | b :: bs, .dct _ _, h => (leaf_fine h).mono (by simp) (bnd_40 _)
abbrev dims : List Nat := [6, 42, 42, 3]
theorem wf_rep {d : D} (h : wf dims d = true) : d.nos = true ∧ rprD d = some (.str (shownD d)) := by
  obtain ⟨h1, h2, h3, h4⟩ := wf_fine h
  refine ⟨h1, ?_⟩
  have : repOk d = true := by
    rw [repOk_eq]
    unfold repOk0
    rw [h1, h2, decide_eq_true (Nat.le_trans h3 (by decide)), decide_eq_true (Nat.le_trans h4 (by decide))]
    rfl
  unfold rprD
  rw [if_pos this]
theorem r_rpr {φ : FEnv} {Γ : CW.Env} {a : CW.E} : evE φ (.rpr a) Γ = (evE φ a Γ).bind fun x => R.ofo (rprD x) := by simp only [evE]
theorem ne_str {s : Str} : Cop.sem .ne (.str s) (.str s) = some false := by
  have : eqOk (.str s) (.str s) = true := by simp [eqOk, eqX]
  rw [c_ne, if_pos this]
  simp [eqD]
section
variable {φ : FEnv} {Γ : CW.Env}
theorem r_rep {ck : Bool} {a b : CW.E} : evE φ (.rep ck a b) Γ = (evE φ a Γ).bind fun x Γ => (evE φ b Γ).bind fun y => R.ofo (repD ck x y) := by simp only [evE]
theorem r_tpl {ck : Bool} {a : CW.E} : evE φ (.tpl ck a) Γ = (evE φ a Γ).bind fun x => R.ofo (tplD ck x) := by simp only [evE]
theorem okLf {ds : List D} : okL false ds = some (.lst ds) := rfl
theorem catF {a b : List D} (h : a.length + b.length ≤ 4096) : catD false (.lst a) (.lst b) = some (.lst (a ++ b)) := by
  have hz : (4096 : Nat) ≤ sizeLine := by decide
  show (if a.length + b.length ≤ sizeLine then some (D.lst (a ++ b)) else none) = _
  rw [if_pos (by omega)]
theorem tplF {a : List D} : tplD false (.lst a) = some (.tup a) := rfl
theorem mkF {a : List D} : Mk.sem false .list (.lst a) = some (.lst a) := rfl
theorem repF {a : List D} {k : Int} (h : a.length ≤ 8) (hk : 0 ≤ k ∧ k ≤ 8) : repD false (.lst a) (.int k) = some (.lst (List.replicate k.toNat a).flatten) := by
  have hz : (4096 : Nat) ≤ sizeLine := by decide
  have h2 : a.length * k.toNat ≤ 8 * 8 := Nat.mul_le_mul h (by omega)
  have : repR a.length k = true := by
    rw [repR_eq]
    unfold repR0
    rw [decide_eq_true_eq]
    omega
  show (if repR a.length k then okL false _ else none) = _
  rw [if_pos this]
  rfl
end
/-- all members are small things -/
def AW (bs : List Nat) (ds : List D) : Prop := ∀ x ∈ ds, wf bs x = true
theorem wf_leaf {d : D} (h : leafB d = true) : ∀ bs, wf bs d = true
  | [] => by cases d <;> exact h
  | b :: bs => by cases d <;> first | exact h | cases h
theorem wf_l {b : Nat} {bs : List Nat} {ds : List D} (h1 : ds.length ≤ b) (h2 : AW bs ds) : wf (b :: bs) (.lst ds) = true := by
  simp only [wf, Bool.and_eq_true, decide_eq_true_eq, List.all_eq_true]
  exact ⟨h1, h2⟩
theorem wf_t {b : Nat} {bs : List Nat} {ds : List D} (h1 : ds.length ≤ b) (h2 : AW bs ds) : wf (b :: bs) (.tup ds) = true := by
  simp only [wf, Bool.and_eq_true, decide_eq_true_eq, List.all_eq_true]
  exact ⟨h1, h2⟩
theorem aw_nil {bs : List Nat} : AW bs [] := fun x h => nomatch h
theorem aw_cons {bs : List Nat} {d : D} {ds : List D} (h : wf bs d = true) (hs : AW bs ds) : AW bs (d :: ds) := fun x hx => by
  rcases List.mem_cons.mp hx with rfl | hx
  · exact h
  · exact hs x hx
theorem aw_app {bs : List Nat} {a b : List D} (h : AW bs a) (hs : AW bs b) : AW bs (a ++ b) := fun x hx => by
  rcases List.mem_append.mp hx with hx | hx
  · exact h x hx
  · exact hs x hx
theorem aw_one {bs : List Nat} {d : D} (h : wf bs d = true) : AW bs [d] := aw_cons h aw_nil
theorem aw_cut {bs : List Nat} {a : List D} {l h : Option Int} (ha : AW bs a) : AW bs (cutD a l h) := fun x hx => ha x (List.mem_of_mem_drop (List.mem_of_mem_take hx))
theorem cut_leD {a : List D} {l h : Option Int} : (cutD a l h).length ≤ a.length := by
  unfold cutD
  rw [List.length_take, List.length_drop]
  omega
theorem aw_rev {bs : List Nat} {a : List D} (ha : AW bs a) : AW bs a.reverse := fun x hx => ha x (List.mem_reverse.mp hx)
theorem aw_rep {bs : List Nat} {a : List D} {n : Nat} (ha : AW bs a) : AW bs (List.replicate n a).flatten := fun x hx => by
  obtain ⟨l, hl, hx⟩ := List.mem_flatten.mp hx
  rw [(List.mem_replicate.mp hl).2] at hx
  exact ha x hx
theorem rep_len {a : List D} {n : Nat} : (List.replicate n a).flatten.length = n * a.length := by simp
theorem aw_map {bs : List Nat} {α : Type} {l : List α} {f : α → D} (h : ∀ a ∈ l, wf bs (f a) = true) : AW bs (l.map f) := fun x hx => by
  obtain ⟨a, ha, rfl⟩ := List.mem_map.mp hx
  exact h a ha
/-- a drawn member -/
theorem aw_at {bs : List Nat} {L : List D} {r : Int} (h : AW bs L) (h0 : 0 ≤ r) (h1 : r < L.length) : ∃ x, atI L r = some x ∧ wf bs x = true := by
  rw [atI_of_nonneg h0, List.getElem?_eq_getElem (by omega)]
  exact ⟨_, rfl, h _ (List.getElem_mem _)⟩
theorem int_bd {x : Int} (h : Bd x) : leafB (.int x) = true ∧ leafB (.int (x + 1)) = true := by
  obtain ⟨h1, h2⟩ := h
  unfold leafB
  rw [decide_eq_true_eq, decide_eq_true_eq]
  have e : (10 : Nat) ^ 39 = 1000000000000000000000000000000000000000 := by decide
  rw [e]
  omega
theorem int_small {x : Int} (h : -1000 ≤ x ∧ x ≤ 1000) (bs : List Nat) : wf bs (.int x) = true := by
  refine wf_leaf ?_ bs
  unfold leafB
  rw [decide_eq_true_eq]
  have e : (10 : Nat) ^ 39 = 1000000000000000000000000000000000000000 := by decide
  rw [e]
  omega
theorem p25 : powOk 10 25 = true := by rw [powOk_eq]; decide
theorem wT25 (bs : List Nat) : wf bs (.int (10 ^ 25)) = true := wf_leaf (by decide) bs
theorem land_true {rows : List (List Int)} {wd : Nat} {st ju : List (Int × Int)} (hl : LandOk rows wd st ju) : landB (landD rows st ju) = true := by
  have mv : ∀ {ps : List (Int × Int)}, MovOk ps → areMv (movD ps) = true := fun {ps} h => by
    simp only [movD, areMv, Bool.and_eq_true, decide_eq_true_eq, List.length_map, List.all_eq_true]
    refine ⟨h.len, fun i hi => ?_⟩
    have hi' : i < ps.length := List.mem_range.mp hi
    unfold gMv
    rw [List.getElem?_map, List.getElem?_eq_getElem hi']
    show (isMv (pairD ps[i]) && _) = true
    rw [isMv_p (h.ok _ (List.getElem_mem hi')), Bool.true_and]
    cases i with
    | zero => rfl
    | succ j =>
      have hj : j < ps.length := by omega
      rw [Nat.add_sub_cancel, List.getElem?_map, List.getElem?_eq_getElem hj]
      show ((j + 1 == 0) || ltB (pairD ps[j]) (pairD ps[j + 1])) = true
      have := List.pairwise_iff_getElem.mp h.up j (j + 1) hj hi' (by omega)
      unfold ltM at this
      rw [ltB_pair]
      rw [Bool.or_eq_true]
      right
      split
      · rw [decide_eq_true_eq]; omega
      · rw [decide_eq_true_eq]; omega
  have tb : isTab (tabD rows) = true := by
    have h0 : 0 < rows.length := hl.hi.1
    have hw := hl.wi
    unfold tabD isTab
    simp only [List.length_map, decide_eq_true hl.hi.1, decide_eq_true hl.hi.2, Bool.true_and, List.all_map, List.all_eq_true]
    intro r hr
    have e0 : len0 (rows.map fun r => D.lst (r.map .int)) = wd := by
      obtain ⟨a, b, rfl⟩ : ∃ a b, rows = a :: b := by
        cases rows with
        | nil => simp at h0
        | cons a b => exact ⟨a, b, rfl⟩
      show (a.map D.int).length = wd
      rw [List.length_map]
      exact hl.row a List.mem_cons_self
    rw [e0]
    show rowB wd (.lst (r.map .int)) = true
    simp only [rowB, List.length_map, hl.row r hr, Bool.and_eq_true, decide_eq_true_eq, List.all_map, List.all_eq_true]
    exact ⟨⟨⟨hw.1, hw.2⟩, trivial⟩, fun x hx => rfl⟩
  have dj : disjB (movD st) (movD ju) = true := by
    unfold movD disjB
    rw [List.isEmpty_iff, List.filter_eq_nil_iff]
    intro x hx
    obtain ⟨p, hp, rfl⟩ := List.mem_map.mp hx
    rw [any_mov, decide_eq_true_eq]
    exact hl.dj p hp
  unfold landD landB
  simp only [tb, mv hl.sto, mv hl.juo, dj, Bool.and_self]
theorem wf_land {rows : List (List Int)} {wd : Nat} {st ju : List (Int × Int)} (hl : LandOk rows wd st ju) : (landD rows st ju).nos = true := by
  have h1 : ∀ {ps : List (Int × Int)}, D.noss (ps.map pairD) = true := fun {ps} => by
    induction ps with
    | nil => rfl
    | cons p ps ih => simp [D.noss, pairD, D.nos] at ih ⊢; exact ih
  have h2 : ∀ {r : List Int}, D.noss (r.map .int) = true := fun {r} => by
    induction r with
    | nil => rfl
    | cons p ps ih => simp [D.noss, D.nos] at ih ⊢; exact ih
  have h3 : ∀ {rs : List (List Int)}, D.noss (rs.map fun r => .lst (r.map .int)) = true := fun {rs} => by
    induction rs with
    | nil => rfl
    | cons p ps ih => simp [D.noss, D.nos, h2] at ih ⊢; exact ih
  simp [landD, tabD, movD, D.nos, D.noss, h1, h3]
end CWL
namespace CWL
open PySem L2 CW
/-- a row as a thing -/
structure RowD (R : List D) : Prop where
  len : 1 ≤ R.length ∧ R.length ≤ 6
  all : ∀ x ∈ R, ∃ i, x = .int i ∧ Bd i
theorem RowD.aw {R : List D} (h : RowD R) (bs : List Nat) : AW bs R := fun x hx => by
  obtain ⟨i, rfl, hb⟩ := h.all x hx
  exact wf_leaf (int_bd hb).1 bs
theorem row_ok {r : List Int} (h : 1 ≤ r.length ∧ r.length ≤ 6) (hb : ∀ x ∈ r, Bd x) : RowD (r.map .int) := ⟨by rwa [List.length_map], fun x hx => by
  obtain ⟨i, hi, rfl⟩ := List.mem_map.mp hx
  exact ⟨i, rfl, hb i hi⟩⟩
/-- a table as a thing -/
structure TabD (T : List D) : Prop where
  len : 1 ≤ T.length ∧ T.length ≤ 6
  all : ∀ x ∈ T, ∃ R, x = .lst R ∧ RowD R
theorem TabD.aw {T : List D} (h : TabD T) : AW [42, 3] T := fun x hx => by
  obtain ⟨R, rfl, hb⟩ := h.all x hx
  exact wf_l (by have := hb.len; omega) (hb.aw _)
theorem tab_ok {rows : List (List Int)} {wd : Nat} {st ju : List (Int × Int)} (hl : LandOk rows wd st ju) (hb : ∀ r ∈ rows, ∀ x ∈ r, Bd x) : TabD (rows.map fun r => .lst (r.map .int)) := ⟨by rw [List.length_map]; exact hl.hi, fun x hx => by
  obtain ⟨r, hr, rfl⟩ := List.mem_map.mp hx
  exact ⟨_, rfl, row_ok (by rw [hl.row r hr]; exact hl.wi) (hb r hr)⟩⟩
def AP (p : D → Prop) (ds : List D) : Prop := ∀ x ∈ ds, p x
theorem ap_one {p : D → Prop} {d : D} (h : p d) : AP p [d] := fun x hx => by rw [List.mem_singleton.mp hx]; exact h
theorem ap_cons {p : D → Prop} {d : D} {ds : List D} (h : p d) (t : AP p ds) : AP p (d :: ds) := fun x hx => by
  rcases List.mem_cons.mp hx with rfl | hx
  · exact h
  · exact t x hx
theorem ap_app {p : D → Prop} {a b : List D} (h : AP p a) (t : AP p b) : AP p (a ++ b) := fun x hx => by
  rcases List.mem_append.mp hx with hx | hx
  · exact h x hx
  · exact t x hx
theorem ap_at {p : D → Prop} {L : List D} {r : Int} (h : AP p L) (h0 : 0 ≤ r) (h1 : r < L.length) : ∃ x, atI L r = some x ∧ p x := by
  rw [atI_of_nonneg h0, List.getElem?_eq_getElem (by omega)]
  exact ⟨_, rfl, h _ (List.getElem_mem _)⟩
/-! what is no table, no moves, no land -/
theorem notab_row {rs : List D} {x : D} (hx : x ∈ rs) (h : ∀ w, rowB w x = false) : isTab (.lst rs) = false := by
  cases hh : isTab (.lst rs) with
  | false => rfl
  | true =>
    simp only [isTab, Bool.and_eq_true, List.all_eq_true] at hh
    have := hh.2 x hx
    rw [h] at this
    cases this
theorem notab_len {rs : List D} {a b : List D} (ha : .lst a ∈ rs) (hb : .lst b ∈ rs) (h : a.length ≠ b.length) : isTab (.lst rs) = false := by
  cases hh : isTab (.lst rs) with
  | false => rfl
  | true =>
    simp only [isTab, Bool.and_eq_true, List.all_eq_true] at hh
    have h1 := hh.2 _ ha
    have h2 := hh.2 _ hb
    simp only [rowB, Bool.and_eq_true, decide_eq_true_eq] at h1 h2
    exact absurd (h1.1.2.trans h2.1.2.symm) h
theorem row_odd {R : List D} {p : Nat} {odd : D} (hp : p < R.length) (ho : isW odd = false) (w : Nat) : rowB w (.lst (R.set p odd)) = false := by
  have : (R.set p odd).all isW = false := by
    rw [List.all_eq_false]
    exact ⟨odd, List.mem_of_getElem? (by rw [List.getElem?_set_self hp]), by rw [ho]; exact Bool.false_ne_true⟩
  simp only [rowB, this, Bool.and_false]
/-- small and no table / no moves / no land -/
def NoT (x : D) : Prop := isTab x = false ∧ wf [42, 42, 3] x = true
def NoM (x : D) : Prop := areMv x = false ∧ wf [42, 42, 3] x = true
def NoL (x : D) : Prop := landB x = false ∧ wf dims x = true
theorem noL_t {t s j : D} (ht : NoT t) (hs : wf [42, 42, 3] s = true) (hj : wf [42, 42, 3] j = true) : NoL (.tup [t, s, j]) :=
  ⟨by simp only [landB, ht.1, Bool.false_and], wf_t (by simp) (aw_cons ht.2 (aw_cons hs (aw_one hj)))⟩
theorem noL_s {t s j : D} (ht : wf [42, 42, 3] t = true) (hs : NoM s) (hj : wf [42, 42, 3] j = true) : NoL (.tup [t, s, j]) :=
  ⟨by simp only [landB, hs.1, Bool.false_and, Bool.and_false], wf_t (by simp) (aw_cons ht (aw_cons hs.2 (aw_one hj)))⟩
theorem noL_j {t s j : D} (ht : wf [42, 42, 3] t = true) (hs : wf [42, 42, 3] s = true) (hj : NoM j) : NoL (.tup [t, s, j]) :=
  ⟨by simp only [landB, hj.1, Bool.false_and, Bool.and_false], wf_t (by simp) (aw_cons ht (aw_cons hs (aw_one hj.2)))⟩
theorem noL_d {t s j : D} (ht : wf [42, 42, 3] t = true) (hs : wf [42, 42, 3] s = true) (hj : wf [42, 42, 3] j = true) (h : disjB s j = false) : NoL (.tup [t, s, j]) :=
  ⟨by simp only [landB, h, Bool.and_false], wf_t (by simp) (aw_cons ht (aw_cons hs (aw_one hj)))⟩
theorem noL_n {x : D} (h : ∀ a b c, x ≠ .tup [a, b, c]) (hw : wf dims x = true) : NoL x := by
  refine ⟨?_, hw⟩
  unfold landB
  split
  · exact absurd rfl (h _ _ _)
  · rfl
abbrev p23 : D := .tup [.int 2, .int 3]
abbrev p24 : D := .tup [.int 2, .int 4]
abbrev mv15 : List D := [.tup [.int 0, .int 0], .tup [.int 6, .int 0], .tup [.int 0, .int (-6)], .tup [.int 1, .int 2, .int 3], .tup [.int 1], .lst [.int 1, .int 1], .non, .str "0:1", .tup [.bl true, .int 0], .tup [.int 0, .bl false], .tup [.int 0, .non], .int 3, .tup [], .tup [.int (-6), .int 0], .tup [.int 0, .int 6]]
def BadM (m : D) : Prop := isMv m = false ∧ wf [42, 3] m = true
theorem wfl (bs : List Nat) (i : Int) (h : -1000 ≤ i ∧ i ≤ 1000) : wf bs (.int i) = true := int_small h bs
theorem mv15_bad : AP BadM mv15 := by
  have P : ∀ i j : Int, isMv (.tup [.int i, .int j]) = false → -1000 ≤ i ∧ i ≤ 1000 → -1000 ≤ j ∧ j ≤ 1000 → BadM (.tup [.int i, .int j]) := fun i j h hi hj => ⟨h, wf_t (by simp) (aw_cons (wfl _ _ hi) (aw_one (wfl _ _ hj)))⟩
  have T2 : ∀ a b : D, isMv (.tup [a, b]) = false → wf [3] a = true → wf [3] b = true → BadM (.tup [a, b]) := fun a b h ha hb => ⟨h, wf_t (by simp) (aw_cons ha (aw_one hb))⟩
  exact ap_cons (P _ _ (by decide) (by omega) (by omega)) (ap_cons (P _ _ (by decide) (by omega) (by omega)) (ap_cons (P _ _ (by decide) (by omega) (by omega)) (ap_cons ⟨rfl, wf_t (by simp) (aw_cons (wfl _ _ (by omega)) (aw_cons (wfl _ _ (by omega)) (aw_one (wfl _ _ (by omega)))))⟩ (ap_cons ⟨rfl, wf_t (by simp) (aw_one (wfl _ _ (by omega)))⟩ (ap_cons ⟨rfl, wf_l (by simp) (aw_cons (wfl _ _ (by omega)) (aw_one (wfl _ _ (by omega))))⟩ (ap_cons ⟨rfl, rfl⟩ (ap_cons ⟨rfl, wf_leaf (by decide) _⟩ (ap_cons (T2 _ _ rfl rfl (wfl _ _ (by omega))) (ap_cons (T2 _ _ rfl (wfl _ _ (by omega)) rfl) (ap_cons (T2 _ _ rfl (wfl _ _ (by omega)) rfl) (ap_cons ⟨rfl, wfl _ _ (by omega)⟩ (ap_cons ⟨rfl, wf_t (by simp) aw_nil⟩ (ap_cons (P _ _ (by decide) (by omega) (by omega)) (ap_one (P _ _ (by decide) (by omega) (by omega))))))))))))))))
theorem bad_in {ds : List D} {m : D} (hm : m ∈ ds) (h : isMv m = false) : areMv (.lst ds) = false := by
  have : ds.all isMv = false := by
    rw [List.all_eq_false]
    exact ⟨m, hm, by rw [h]; exact Bool.false_ne_true⟩
  simp only [areMv, areMv_bad this, Bool.and_false]
theorem w23 : wf [42, 3] p23 = true ∧ wf [42, 3] p24 = true := ⟨wf_t (by simp) (aw_cons (wfl _ _ (by omega)) (aw_one (wfl _ _ (by omega)))), wf_t (by simp) (aw_cons (wfl _ _ (by omega)) (aw_one (wfl _ _ (by omega))))⟩
abbrev many9 : List D := (List.range 9).map fun (i : Nat) => .tup [.int 5, .int (0 + (i : Int) - 4)]
theorem bads_bad {m : D} (h : BadM m) : AP NoM [.lst [p23, p24, m], .lst [m, p23, p24], .lst [p24, p23], .lst [p23, p24, p24], .lst many9, .tup [p23, p24], .non, .dct [] [], .str "", .lst [.lst [p23, p24]]] := by
  obtain ⟨a, b⟩ := w23
  have e1 : areMv (.lst [p24, p23]) = false := by decide
  have e2 : areMv (.lst [p23, p24, p24]) = false := by decide
  have e3 : areMv (.lst many9) = false := by
    have : ¬ many9.length ≤ 8 := by simp [many9]
    simp only [areMv, decide_eq_false this, Bool.false_and]
  exact ap_cons ⟨bad_in (m := m) (by simp) h.1, wf_l (by simp) (aw_cons a (aw_cons b (aw_one h.2)))⟩ (ap_cons ⟨bad_in (m := m) (by simp) h.1, wf_l (by simp) (aw_cons h.2 (aw_cons a (aw_one b)))⟩ (ap_cons ⟨e1, wf_l (by simp) (aw_cons b (aw_one a))⟩ (ap_cons ⟨e2, wf_l (by simp) (aw_cons a (aw_cons b (aw_one b)))⟩ (ap_cons ⟨e3, wf_l (by simp [many9]) (aw_map fun i hi => wf_t (by simp) (aw_cons (wfl _ _ (by omega)) (aw_one (wfl _ _ (by have := List.mem_range.mp hi; omega)))))⟩ (ap_cons ⟨rfl, wf_t (by simp) (aw_cons a (aw_one b))⟩ (ap_cons ⟨rfl, rfl⟩ (ap_cons ⟨rfl, rfl⟩ (ap_cons ⟨rfl, wf_leaf (by decide) _⟩ (ap_one ⟨bad_in (m := .lst [p23, p24]) (by simp) rfl, wf_l (by simp) (aw_one (wf_l (by simp) (aw_cons (wf_t (by simp) (aw_cons (wfl _ _ (by omega)) (aw_one (wfl _ _ (by omega))))) (aw_one (wf_t (by simp) (aw_cons (wfl _ _ (by omega)) (aw_one (wfl _ _ (by omega)))))))))⟩)))))))))
end CWL
namespace CWL
open PySem L2 CW
section
variable {φ : FEnv} {Γ : CW.Env}
@[simp] theorem r_rp1 {a b : CW.E} : evE φ (.rp1 a b) Γ = (evE φ a Γ).bind fun x Γ => (evE φ b Γ).bind fun y => R.ofo (rp1D x y) := by simp only [evE]
end
structure Tab (T : List D) (wd : Nat) : Prop where
  hi : 1 ≤ T.length ∧ T.length ≤ 6
  wi : 1 ≤ wd ∧ wd ≤ 6
  row : ∀ x ∈ T, ∃ R, x = .lst R ∧ RowD R ∧ R.length = wd
theorem Tab.aw {T : List D} {wd : Nat} (h : Tab T wd) : AW [42, 3] T := fun x hx => by
  obtain ⟨R, rfl, hb, _⟩ := h.row x hx
  exact wf_l (by have := hb.len; omega) (hb.aw _)
theorem tab_of {rows : List (List Int)} {wd : Nat} {st ju : List (Int × Int)} (hl : LandOk rows wd st ju) (hb : ∀ r ∈ rows, ∀ x ∈ r, Bd x) : Tab (rows.map fun r => .lst (r.map .int)) wd :=
  ⟨by rw [List.length_map]; exact hl.hi, hl.wi, fun x hx => by
    obtain ⟨r, hr, rfl⟩ := List.mem_map.mp hx
    exact ⟨_, rfl, row_ok (by rw [hl.row r hr]; exact hl.wi) (hb r hr), by rw [List.length_map]; exact hl.row r hr⟩⟩
theorem RowD.okL {R : List D} (h : RowD R) : okL true R = some (.lst R) := by
  have : R.all D.imm = true := by
    rw [List.all_eq_true]
    intro x hx
    obtain ⟨i, rfl, _⟩ := h.all x hx
    simp
  unfold CW.okL
  rw [this]
  rfl
/-- list(row) for row in table -/
theorem copyT {T : List D} {wd : Nat} (hT : Tab T wd) {φ : FEnv} {x0 x1 x2 x3 x4 x5 x6 x7 x8 x9 x10 x11 x12 x13 x14 x16 x17 x19 : Option D} :
    evE φ (.lcl false [18] (.nm 18 false) (.var 15) none (.mk .list true (.var 18))) [x0, x1, x2, x3, x4, x5, x6, x7, x8, x9, x10, x11, x12, x13, x14, some (.lst T), x16, x17, none, x19] = .ok (.lst T) [x0, x1, x2, x3, x4, x5, x6, x7, x8, x9, x10, x11, x12, x13, x14, some (.lst T), x16, x17, none, x19] := by
  have := lcl_map (φ := φ) (tp := false) (own := [18]) (tg := .nm 18 false) (src := .var 15) (elt := .mk .list true (.var 18)) (Γ := [x0, x1, x2, x3, x4, x5, x6, x7, x8, x9, x10, x11, x12, x13, x14, some (.lst T), x16, x17, none, x19]) (x := .lst T) id id id (fun x => [x0, x1, x2, x3, x4, x5, x6, x7, x8, x9, x10, x11, x12, x13, x14, some (.lst T), x16, x17, some x, x19]) (l := T) (by simp) (by rw [List.map_id]; rfl) (fun x hx => ⟨rfl, rfl, by
    obtain ⟨R, rfl, hR, _⟩ := hT.row x hx
    have : Mk.sem true .list (.lst R) = some (.lst R) := hR.okL
    simp [this]⟩)
  rw [List.map_id, List.map_id] at this
  exact this
/-- where the drawn row and place stand -/
structure At (T : List D) (wd : Nat) (k p : Int) (kn pn : Nat) (R : List D) : Prop where
  ik : ixN T.length k = some kn
  gk : T[kn]? = some (.lst R)
  ak : atI T k = some (.lst R)
  kl : kn < T.length
  ke : k = kn
  ip : ixN R.length p = some pn
  pl : pn < R.length
  gp : ∃ v, R[pn]? = some v
  row : RowD R
  rl : R.length = wd
theorem at_of {T : List D} {wd : Nat} (hT : Tab T wd) {k p : Int} (hk : 0 ≤ k ∧ k < T.length) (hp : 0 ≤ p ∧ p < wd) : ∃ kn pn R, At T wd k p kn pn R := by
  have kl : k.toNat < T.length := by omega
  obtain ⟨R, hR, rR, lR⟩ := hT.row _ (List.getElem_mem kl)
  have pl : p.toNat < R.length := by omega
  exact ⟨k.toNat, p.toNat, R, ixN_of hk, by rw [List.getElem?_eq_getElem kl, hR], by rw [atI_of_nonneg hk.1, List.getElem?_eq_getElem kl, hR], kl, by omega, ixN_of ⟨hp.1, by omega⟩, pl, ⟨_, List.getElem?_eq_getElem pl⟩, rR, lR⟩
theorem z2 {T : List D} {wd : Nat} (hT : Tab T wd) {k p : Int} {kn pn : Nat} {R : List D} (a : At T wd k p kn pn R) {odd : D} {x0 x1 x6 x7 x8 x9 x10 x11 x12 x13 x14 x16 x17 x19 : Option D} :
    evSs h73 ((i73.drop 4).take 3) [x0, x1, some (.int k), some (.int p), some odd, none, x6, x7, x8, x9, x10, x11, x12, x13, x14, some (.lst T), x16, x17, none, x19] = .nx [x0, x1, some (.int k), some (.int p), none, some (.lst (T.set kn (.lst (R.set pn odd)))), x6, x7, x8, x9, x10, x11, x12, x13, x14, some (.lst T), x16, x17, none, x19] := by
  obtain ⟨v, gp⟩ := a.gp
  simp [i73, copyT hT, -r_lcl, a.ik, a.gk, a.ip, gp]
theorem appT {L : List D} {k : Int} {kn : Nat} {R : List D} {d : D} (ik : ixN L.length k = some kn) (gk : L[kn]? = some (.lst R)) (hl : R.length ≤ 4096) : appAt (.lst L) [k] d = some (.lst (L.set kn (.lst (R ++ [d])))) := by
  have hz : (4096 : Nat) < sizeLine := by decide
  have ak : atI L k = some (.lst R) := by unfold atI; rw [ik]; exact gk
  simp [appAt, pathD, ak, modAt, ik, gk, show R.length < sizeLine by omega]
theorem lsT {L : List D} {k : Int} {kn : Nat} {R : List D} {Γ : CW.Env} {x : Nat} (g : CW.get Γ x = some (.lst L)) (ik : ixN L.length k = some kn) (gk : L[kn]? = some (.lst R)) : lsP Γ x [.int k] = some [k] := by
  have ak : atI L k = some (.lst R) := by unfold atI; rw [ik]; exact gk
  simp [lsP, g, pathD, ak]
theorem z3 {T : List D} {wd : Nat} (hT : Tab T wd) {k p : Int} {kn pn : Nat} {R : List D} (a : At T wd k p kn pn R) {x0 x1 x4 x5 x7 x8 x9 x10 x11 x12 x13 x14 x16 x17 x19 : Option D} :
    evSs h73 ((i73.drop 7).take 4) [x0, x1, some (.int k), some (.int p), x4, x5, none, x7, x8, x9, x10, x11, x12, x13, x14, some (.lst T), x16, x17, none, x19] = .nx [x0, x1, some (.int k), some (.int p), x4, x5, some (.lst (T.set kn (.lst (R ++ [.int 1])) ++ [.lst (List.replicate wd (.int 1))])), x7, x8, x9, x10, x11, x12, x13, x14, some (.lst T), x16, x17, none, x19] := by
  have hz : (4096 : Nat) ≤ sizeLine := by decide
  have t1 := hT.hi
  have lr := a.row.len
  obtain ⟨R0, h0, _, l0⟩ := hT.row _ (List.getElem_mem (show 0 < T.length by omega))
  have e0 : atI T 0 = some (.lst R0) := by rw [at_0, List.getElem?_eq_getElem (show 0 < T.length by omega), h0]
  have rp : repD true (.lst [.int 1]) (.int (wd : Int)) = some (.lst (List.replicate wd (.int 1))) := by
    have := hT.wi
    have : repR 1 (wd : Int) = true := by
      rw [repR_eq]
      unfold repR0
      rw [decide_eq_true_eq, Int.toNat_natCast]
      omega
    show (if repR 1 (wd : Int) then okL true (List.replicate ((wd : Int)).toNat [D.int 1]).flatten else none) = _
    rw [if_pos this, Int.toNat_natCast]
    have e : (List.replicate wd [D.int 1]).flatten = List.replicate wd (D.int 1) := by
      induction wd with
      | zero => rfl
      | succ n ih => simp [List.replicate_succ]
    rw [e]
    unfold okL
    rw [if_pos (by simp)]
  have ap := appT (d := .int 1) a.ik a.gk (by omega)
  have lp : lsP [x0, x1, some (.int k), some (.int p), x4, x5, some (.lst T), x7, x8, x9, x10, x11, x12, x13, x14, some (.lst T), x16, x17, none, x19] 6 [.int k] = some [k] := lsT rfl a.ik a.gk
  have l1 : T.length < sizeLine := by omega
  simp [i73, copyT hT, -r_lcl, lp, ap, e0, l0, r_rep, rp, lsAt, appK, l1]
theorem cut1 {R : List D} : (cutD R none (some (-1))).length ≤ R.length := cut_leD
/-- rows that are even in none -/
theorem z4 {T : List D} {wd : Nat} (hT : Tab T wd) {k p : Int} {kn pn : Nat} {R : List D} (a : At T wd k p kn pn R) {x0 x1 x3 x4 x5 x6 x8 x9 x10 x11 x12 x13 x14 x16 x17 x19 : Option D} :
    ∃ L : List D, evSs h73 ((i73.drop 11).take 4) [x0, x1, some (.int k), x3, x4, x5, x6, none, x8, x9, x10, x11, x12, x13, x14, some (.lst T), x16, x17, none, x19] = .nx [x0, x1, some (.int k), x3, x4, x5, x6, some (.lst L), x8, x9, x10, x11, x12, x13, x14, some (.lst T), x16, x17, none, x19] ∧ NoT (.lst L) := by
  have t1 := hT.hi
  have wi := hT.wi
  have lr := a.row.len
  obtain ⟨B, cB, lB, gB, bB⟩ : ∃ B : List D, catD false (.lst T) (.lst (if T.length < 2 then [.lst []] else [])) = some (.lst B) ∧ (2 ≤ B.length ∧ B.length ≤ 7 ∧ T.length ≤ B.length) ∧ B[kn]? = some (.lst R) ∧ ∀ x ∈ B, ∃ Q, x = .lst Q ∧ Q.length ≤ wd ∧ Q.all D.imm = true ∧ wf [42, 3] x = true := by
    have each : ∀ x ∈ T, ∃ Q, x = .lst Q ∧ Q.length ≤ wd ∧ Q.all D.imm = true ∧ wf [42, 3] x = true := fun x hx => by
      obtain ⟨Q, rfl, rQ, lQ⟩ := hT.row x hx
      refine ⟨Q, rfl, by omega, ?_, hT.aw _ hx⟩
      rw [List.all_eq_true]
      intro y hy
      obtain ⟨i, rfl, _⟩ := rQ.all y hy
      simp
    by_cases h2 : T.length < 2
    · refine ⟨T ++ [.lst []], by rw [if_pos h2]; exact catF (by simp; omega), by simp; omega, ?_, fun x hx => ?_⟩
      · rw [List.getElem?_append_left a.kl]
        exact a.gk
      · rcases List.mem_append.mp hx with hx | hx
        · exact each x hx
        · rw [List.mem_singleton.mp hx]
          exact ⟨[], rfl, Nat.zero_le _, rfl, wf_l (by simp) aw_nil⟩
    · exact ⟨T, by rw [if_neg h2]; exact (catF (by simp; omega)).trans (by rw [List.append_nil]), by omega, a.gk, each⟩
  have ikB : ixN B.length k = some kn := by
    have := a.kl
    rw [a.ke]
    exact (ixN_of ⟨by omega, by omega⟩).trans (by rw [Int.toNat_natCast])
  have kB : kn < B.length := by have := a.kl; omega
  have apB := appT (d := .int 1) ikB gB (by omega)
  -- the row ahead
  obtain ⟨j, ij, jk, jl⟩ : ∃ j, ixN B.length (k - 1) = some j ∧ j ≠ kn ∧ j < B.length := by
    rw [a.ke]
    by_cases k0 : kn = 0
    · subst k0
      refine ⟨B.length - 1, ?_, by omega, by omega⟩
      unfold ixN
      rw [if_neg (by omega), if_pos (by omega)]
      congr 1
      omega
    · refine ⟨kn - 1, ?_, by omega, by omega⟩
      exact (ixN_of ⟨by omega, by omega⟩).trans (by congr 1; omega)
  obtain ⟨Q, hQ, lQ, iQ, wQ⟩ := bB _ (List.getElem_mem jl)
  have gj : (B.set kn (.lst (R ++ [.int 1])))[j]? = some (.lst Q) := by
    rw [List.getElem?_set_ne (Ne.symm jk), List.getElem?_eq_getElem jl, hQ]
  have ij' : ixN (B.set kn (.lst (R ++ [.int 1]))).length (k - 1) = some j := by rw [List.length_set]; exact ij
  have aj : atI (B.set kn (.lst (R ++ [.int 1]))) (k - 1) = some (.lst Q) := by unfold atI; rw [ij']; exact gj
  have oj : okL true (cutD Q none (some (-1))) = some (.lst (cutD Q none (some (-1)))) := by
    have : (cutD Q none (some (-1))).all D.imm = true := by
      rw [List.all_eq_true] at iQ ⊢
      exact fun x hx => iQ x (List.mem_of_mem_drop (List.mem_of_mem_take hx))
    unfold CW.okL
    rw [this]
    rfl
  have lp : lsP [x0, x1, some (.int k), x3, x4, x5, x6, some (.lst B), x8, x9, x10, x11, x12, x13, x14, some (.lst T), x16, x17, none, x19] 7 [.int k] = some [k] := lsT rfl ikB gB
  have lc := cut1 (R := Q)
  have r1 : rp1D (.lst [.lst []]) (.int (if T.length < 2 then 1 else 0)) = some (.lst (if T.length < 2 then [.lst []] else [])) := by
    by_cases h2 : T.length < 2
    · simp [rp1D, h2]
    · simp [rp1D, h2]
  refine ⟨(B.set kn (.lst (R ++ [.int 1]))).set j (.lst (cutD Q none (some (-1)))), ?_, ?_, ?_⟩
  · have s0 : evE h73 (.rp1 (.lst [.lst []]) (.bi .int1 [.cmp .lt (.bi .len [.var 15]) (.cn (.int 2))])) [x0, x1, some (.int k), x3, x4, x5, x6, none, x8, x9, x10, x11, x12, x13, x14, some (.lst T), x16, x17, none, x19] = .ok (.lst (if T.length < 2 then [.lst []] else [])) [x0, x1, some (.int k), x3, x4, x5, x6, none, x8, x9, x10, x11, x12, x13, x14, some (.lst T), x16, x17, none, x19] := by
      by_cases h2 : T.length < 2
      · have h2' : (T.length : Int) < 2 := by omega
        simp [h2, h2', rp1D]
      · have h2' : ¬ (T.length : Int) < 2 := by omega
        simp [h2, h2', rp1D]
    generalize hE : (if T.length < 2 then [D.lst []] else []) = E at *
    have s1 : evE h73 (.cat false (.lcl false [18] (.nm 18 false) (.var 15) none (.mk .list true (.var 18))) (.rp1 (.lst [.lst []]) (.bi .int1 [.cmp .lt (.bi .len [.var 15]) (.cn (.int 2))]))) [x0, x1, some (.int k), x3, x4, x5, x6, none, x8, x9, x10, x11, x12, x13, x14, some (.lst T), x16, x17, none, x19] = .ok (.lst B) [x0, x1, some (.int k), x3, x4, x5, x6, none, x8, x9, x10, x11, x12, x13, x14, some (.lst T), x16, x17, none, x19] := by
      rw [r_cat, copyT hT, bind_ok, s0, bind_ok, cB]
      rfl
    generalize hC : CW.E.cat false (.lcl false [18] (.nm 18 false) (.var 15) none (.mk .list true (.var 18))) (.rp1 (.lst [.lst []]) (.bi .int1 [.cmp .lt (.bi .len [.var 15]) (.cn (.int 2))])) = C at *
    have ie : (i73.drop 11).take 4 = [.drop 7, .asg 7 C, .appp 7 [.var 2] (.cn (.int 1)), .setp 7 [] (.bin .sub (.var 2) (.cn (.int 1))) (.sl true (.ix (.var 7) (.bin .sub (.var 2) (.cn (.int 1)))) none (some (.neg (.cn (.int 1)))))] := by rw [← hC]; rfl
    rw [ie]
    rw [List.length_set] at ij'
    rw [List.getElem?_set_ne (Ne.symm jk)] at gj
    simp [s1, lp, apB, aj, oj, ij', gj, List.length_set, jk, Ne.symm jk]
  · refine notab_len (a := R ++ [.int 1]) (b := cutD Q none (some (-1))) (List.mem_of_getElem? (i := kn) ?_) (List.mem_of_getElem? (i := j) ?_) ?_
    · rw [List.getElem?_set_ne jk, List.getElem?_set_self kB]
    · rw [List.getElem?_set_self (by rw [List.length_set]; exact jl)]
    · have := a.rl
      rw [List.length_append]
      simp only [List.length_cons, List.length_nil]
      omega
  · refine wf_l (by rw [List.length_set, List.length_set]; omega) (fun x hx => ?_)
    rcases List.mem_or_eq_of_mem_set hx with hx | rfl
    · rcases List.mem_or_eq_of_mem_set hx with hx | rfl
      · obtain ⟨_, _, _, _, w⟩ := bB x hx
        exact w
      · exact wf_l (by simp; omega) (aw_app (a.row.aw _) (aw_one (int_small (by omega) _)))
    · rw [hQ] at wQ
      simp only [wf, Bool.and_eq_true, decide_eq_true_eq, List.all_eq_true] at wQ
      exact wf_l (by omega) (aw_cut wQ.2)
theorem noT_bent {T : List D} {wd : Nat} (hT : Tab T wd) {k p : Int} {kn pn : Nat} {R : List D} (a : At T wd k p kn pn R) {odd : D} (ho : isW odd = false) (wo : wf [3] odd = true) : NoT (.lst (T.set kn (.lst (R.set pn odd)))) := by
  have t1 := hT.hi
  have lr := a.row.len
  refine ⟨notab_row (x := .lst (R.set pn odd)) (List.mem_of_getElem? (i := kn) (by rw [List.getElem?_set_self a.kl])) (row_odd a.pl ho), wf_l (by rw [List.length_set]; omega) (fun x hx => ?_)⟩
  rcases List.mem_or_eq_of_mem_set hx with hx | rfl
  · exact hT.aw x hx
  · refine wf_l (by rw [List.length_set]; omega) (fun y hy => ?_)
    rcases List.mem_or_eq_of_mem_set hy with hy | rfl
    · exact a.row.aw _ y hy
    · exact wo
theorem noT_uneven {T : List D} {wd : Nat} (hT : Tab T wd) {k p : Int} {kn pn : Nat} {R : List D} (a : At T wd k p kn pn R) : NoT (.lst (T.set kn (.lst (R ++ [.int 1])) ++ [.lst (List.replicate wd (.int 1))])) := by
  have t1 := hT.hi
  have wi := hT.wi
  have lr := a.row.len
  have rl := a.rl
  refine ⟨notab_len (a := R ++ [.int 1]) (b := List.replicate wd (.int 1)) (List.mem_append_left _ (List.mem_of_getElem? (i := kn) (by rw [List.getElem?_set_self a.kl]))) (by simp) (by simp; omega), wf_l (by simp; omega) (fun x hx => ?_)⟩
  rcases List.mem_append.mp hx with hx | hx
  · rcases List.mem_or_eq_of_mem_set hx with hx | rfl
    · exact hT.aw x hx
    · exact wf_l (by simp; omega) (aw_app (a.row.aw _) (aw_one (int_small (by omega) _)))
  · rw [List.mem_singleton.mp hx]
    exact wf_l (by simp; omega) (fun y hy => by rw [(List.mem_replicate.mp hy).2]; exact int_small (by omega) _)
end CWL
namespace CWL
open PySem L2 CW
def OddP (o : D) : Prop := isW o = false ∧ wf [3] o = true
theorem odd8 : AP OddP [.bl true, .bl false, .non, .str "1", .lst [.int 1], .tup [.int 1], .dct [] [], .str ""] :=
  ap_cons ⟨rfl, rfl⟩ (ap_cons ⟨rfl, rfl⟩ (ap_cons ⟨rfl, rfl⟩ (ap_cons ⟨rfl, wf_leaf (by decide) _⟩ (ap_cons ⟨rfl, wf_l (by simp) (aw_one (int_small (by omega) _))⟩ (ap_cons ⟨rfl, wf_t (by simp) (aw_one (int_small (by omega) _))⟩ (ap_cons ⟨rfl, rfl⟩ (ap_one ⟨rfl, wf_leaf (by decide) _⟩)))))))
theorem z1 {d : D} (hd : StoreOk d) {T : List D} {wd : Nat} (hT : Tab T wd) {S J : D} : ∃ (d' odd : D) (k p : Int), evSs h73 (i73.take 4) [some d, some (.tup [.lst T, S, J]), none, none, none, none, none, none, none, none, none, none, none, none, none, none, none, none, none, none] = .nx [some d', some (.tup [.lst T, S, J]), some (.int k), some (.int p), some odd, none, none, none, none, none, none, none, none, none, none, some (.lst T), some S, some J, none, none] ∧ StoreOk d' ∧ OddP odd ∧ (0 ≤ k ∧ k < T.length) ∧ 0 ≤ p ∧ p < wd := by
  have t1 := hT.hi
  have wi := hT.wi
  obtain ⟨R0, h0, _, l0⟩ := hT.row _ (List.getElem_mem (show 0 < T.length by omega))
  have e0 : atI T 0 = some (.lst R0) := by rw [at_0, List.getElem?_eq_getElem (show 0 < T.length by omega), h0]
  obtain ⟨k, d1, e1, k1, a0, a1⟩ := w27 hd (m := (T.length : Int)) (by omega)
  obtain ⟨p, d2, e2, k2, b0, b1⟩ := w27 k1 (m := (wd : Int)) (by omega)
  obtain ⟨r, d3, e3, k3, c0, c1⟩ := w27 k2 (m := 8) (by decide)
  have f1 : h73.f 27 [d, .int T.length] = .ok (.int k) [d1, .int T.length] := e1
  have f2 : h73.f 27 [d1, .int wd] = .ok (.int p) [d2, .int wd] := e2
  have f3 : h73.f 27 [d2, .int 8] = .ok (.int r) [d3, .int 8] := e3
  obtain ⟨odd, eo, ho⟩ := ap_at odd8 c0 c1
  have tb : ∀ Γ, Tg.bind (.tup [.nm 15 false, .nm 16 false, .nm 17 false]) (.tup [.lst T, S, J]) Γ = some (CW.put (CW.put (CW.put Γ 15 (.lst T)) 16 S) 17 J) := fun _ => rfl
  refine ⟨d3, odd, k, p, ?_, k3, ho, ⟨a0, a1⟩, b0, b1⟩
  simp [i73, tb, f1, f2, f3, putP, e0, l0, eo, -at_0]
theorem tplT {T : List D} {wd : Nat} (hT : Tab T wd) {φ : FEnv} {x0 x1 x2 x3 x4 x5 x6 x7 x8 x9 x10 x11 x12 x13 x14 x16 x17 x19 : Option D} :
    ∃ L : List D, evE φ (.lcl false [18] (.nm 18 false) (.var 15) none (.tpl false (.var 18))) [x0, x1, x2, x3, x4, x5, x6, x7, x8, x9, x10, x11, x12, x13, x14, some (.lst T), x16, x17, none, x19] = .ok (.lst L) [x0, x1, x2, x3, x4, x5, x6, x7, x8, x9, x10, x11, x12, x13, x14, some (.lst T), x16, x17, none, x19] ∧ NoT (.lst L) := by
  have := lcl_map (φ := φ) (tp := false) (own := [18]) (tg := .nm 18 false) (src := .var 15) (elt := .tpl false (.var 18)) (Γ := [x0, x1, x2, x3, x4, x5, x6, x7, x8, x9, x10, x11, x12, x13, x14, some (.lst T), x16, x17, none, x19]) (x := .lst T) id id (fun x => match x with | .lst Q => .tup Q | x => x) (fun x => [x0, x1, x2, x3, x4, x5, x6, x7, x8, x9, x10, x11, x12, x13, x14, some (.lst T), x16, x17, some x, x19]) (l := T) (by simp) (by rw [List.map_id]; rfl) (fun x hx => ⟨rfl, rfl, by
    obtain ⟨R, rfl, hR, _⟩ := hT.row x hx
    simp [r_tpl, tplF]⟩)
  rw [List.map_id] at this
  have t1 := hT.hi
  have h0 : 0 < T.length := by omega
  refine ⟨_, this, notab_row (x := (T.map fun x => match x with | .lst Q => .tup Q | x => x)[0]'(by rw [List.length_map]; exact h0)) (List.getElem_mem _) (fun w => ?_), wf_l (by rw [List.length_map]; omega) (fun x hx => ?_)⟩
  · rw [List.getElem_map]
    obtain ⟨R, h, _⟩ := hT.row _ (List.getElem_mem h0)
    rw [h]
    rfl
  · obtain ⟨y, hy, rfl⟩ := List.mem_map.mp hx
    obtain ⟨R, rfl, hR, _⟩ := hT.row y hy
    exact wf_t (by have := hR.len; omega) (hR.aw _)
abbrev one7 : List D := [.int 1, .int 1, .int 1, .int 1, .int 1, .int 1, .int 1]
theorem z5 {T : List D} {wd : Nat} (hT : Tab T wd) {B U V : D} (hB : NoT B) (hU : NoT U) (hV : NoT V) {x0 x1 x2 x3 x4 x9 x10 x11 x12 x13 x14 x16 x17 x19 : Option D} :
    ∃ L : List D, evSs h73 ((i73.drop 15).take 4) [x0, x1, x2, x3, x4, some B, some U, some V, none, x9, x10, x11, x12, x13, x14, some (.lst T), x16, x17, none, x19] = .nx [x0, x1, x2, x3, x4, some B, some U, some V, some (.lst L), x9, x10, x11, x12, x13, x14, some (.lst T), x16, x17, none, x19] ∧ L.length = 14 ∧ AP NoT L := by
  have hz : (4096 : Nat) < sizeLine := by decide
  have t1 := hT.hi
  have c1 : catD false (.lst T) (.lst [.lst []]) = some (.lst (T ++ [.lst []])) := catF (by simp; omega)
  have n1 : NoT (.lst (T ++ [.lst []])) := ⟨notab_row (x := .lst []) (by simp) (fun w => rfl), wf_l (by simp; omega) (aw_app hT.aw (aw_one (wf_l (by simp) aw_nil)))⟩
  obtain ⟨L0, eL, nL⟩ := tplT hT (φ := h73) (x0 := x0) (x1 := x1) (x2 := x2) (x3 := x3) (x4 := x4) (x5 := some B) (x6 := some U) (x7 := some V) (x8 := some (.lst [.lst (T ++ [.lst []]), U, .lst [], .lst [.lst []], .tup T, .non, V, V])) (x9 := x9) (x10 := x10) (x11 := x11) (x12 := x12) (x13 := x13) (x14 := x14) (x16 := x16) (x17 := x17) (x19 := x19)
  have r1 : repD false (.lst [.int 1]) (.int 7) = some (.lst one7) := repF (by simp) (by omega)
  have r2 : repD false (.lst [.lst [.int 1]]) (.int 7) = some (.lst [.lst [.int 1], .lst [.int 1], .lst [.int 1], .lst [.int 1], .lst [.int 1], .lst [.int 1], .lst [.int 1]]) := repF (by simp) (by omega)
  have w1 : wf [3] (.int 1) = true := int_small (by omega) _
  have n7 : NoT (.lst [.lst one7]) := ⟨by decide, wf_l (by simp) (aw_one (wf_l (by simp) (aw_cons w1 (aw_cons w1 (aw_cons w1 (aw_cons w1 (aw_cons w1 (aw_cons w1 (aw_one w1)))))))))⟩
  have wl1 : wf [42, 3] (.lst [.int 1]) = true := wf_l (by simp) (aw_one w1)
  have n77 : NoT (.lst [.lst [.int 1], .lst [.int 1], .lst [.int 1], .lst [.int 1], .lst [.int 1], .lst [.int 1], .lst [.int 1]]) := ⟨by decide, wf_l (by simp) (aw_cons wl1 (aw_cons wl1 (aw_cons wl1 (aw_cons wl1 (aw_cons wl1 (aw_cons wl1 (aw_one wl1)))))))⟩
  have c2 : catD false (.lst [.lst (T ++ [.lst []]), U, .lst [], .lst [.lst []], .tup T, .non, V, V, .lst L0]) (.lst [.lst [.lst one7], .lst [.lst [.int 1], .lst [.int 1], .lst [.int 1], .lst [.int 1], .lst [.int 1], .lst [.int 1], .lst [.int 1]], B, B, B]) = some (.lst [.lst (T ++ [.lst []]), U, .lst [], .lst [.lst []], .tup T, .non, V, V, .lst L0, .lst [.lst one7], .lst [.lst [.int 1], .lst [.int 1], .lst [.int 1], .lst [.int 1], .lst [.int 1], .lst [.int 1], .lst [.int 1]], B, B, B]) := catF (by simp)
  refine ⟨[.lst (T ++ [.lst []]), U, .lst [], .lst [.lst []], .tup T, .non, V, V, .lst L0, .lst [.lst one7], .lst [.lst [.int 1], .lst [.int 1], .lst [.int 1], .lst [.int 1], .lst [.int 1], .lst [.int 1], .lst [.int 1]], B, B, B], ?_, rfl, ap_cons n1 (ap_cons hU (ap_cons ⟨rfl, wf_l (by simp) aw_nil⟩ (ap_cons ⟨rfl, wf_l (by simp) (aw_one (wf_l (by simp) aw_nil))⟩ (ap_cons ⟨rfl, wf_t (by omega) hT.aw⟩ (ap_cons ⟨rfl, rfl⟩ (ap_cons hV (ap_cons hV (ap_cons nL (ap_cons n7 (ap_cons n77 (ap_cons hB (ap_cons hB (ap_one hB)))))))))))))⟩
  have l8 : (8 : Nat) < sizeLine := by omega
  simp [i73, -r_lcl, c1, r_tpl, tplF, eL, lsAt, appK, l8, r_rep, r1, r2, c2]
theorem z6 {d : D} (hd : StoreOk d) {x1 x2 x3 x4 x5 x6 x7 x8 x15 x16 x17 x18 : Option D} : ∃ (d' bad m by_ mn : D), evSs h73 ((i73.drop 19).take 6) [some d, x1, x2, x3, x4, x5, x6, x7, x8, none, none, none, none, none, none, x15, x16, x17, x18, none] = .nx [some d', x1, x2, x3, x4, x5, x6, x7, x8, some m, some mn, some (.lst [p23, p24]), some by_, some bad, none, x15, x16, x17, x18, none] ∧ StoreOk d' ∧ NoM bad := by
  obtain ⟨r, d1, e1, k1, p1, q1⟩ := w27 hd (m := 15) (by decide)
  obtain ⟨s, d2, e2, k2, p2, q2⟩ := w27 k1 (m := 10) (by decide)
  have f1 : h73.f 27 [d, .int 15] = .ok (.int r) [d1, .int 15] := e1
  have f2 : h73.f 27 [d1, .int 10] = .ok (.int s) [d2, .int 10] := e2
  obtain ⟨m, em, bm⟩ := ap_at mv15_bad p1 q1
  obtain ⟨bad, eb, nb⟩ := ap_at (bads_bad bm) p2 q2
  have r9 := rng0 (n := 9) (by omega)
  rw [show (9 : Int).toNat = 9 from rfl] at r9
  have EM : evE h73 (.lcr [19] (.nm 19 false) [.cn (.int 9)] none (.tup [.cn (.int 5), .bin .sub (.var 19) (.cn (.int 4))])) [some d1, x1, x2, x3, x4, x5, x6, x7, x8, some m, none, none, none, none, none, x15, x16, x17, x18, none] = .ok (.lst many9) [some d1, x1, x2, x3, x4, x5, x6, x7, x8, some m, none, none, none, none, none, x15, x16, x17, x18, none] := by
    have := lcr_map (φ := h73) (own := [19]) (tg := .nm 19 false) (es := [.cn (.int 9)]) (as := [.int 9]) (elt := .tup [.cn (.int 5), .bin .sub (.var 19) (.cn (.int 4))]) (Γ := [some d1, x1, x2, x3, x4, x5, x6, x7, x8, some m, none, none, none, none, none, x15, x16, x17, x18, none]) id (fun (i : Nat) => D.tup [.int 5, .int (0 + (i : Int) - 4)]) (fun i => [some d1, x1, x2, x3, x4, x5, x6, x7, x8, some m, none, none, none, none, none, x15, x16, x17, x18, some (.int (0 + (i : Int)))]) (by simp) r9 (fun i hi => ⟨rfl, rfl, by simp⟩)
    rw [List.map_id] at this
    exact this
  have c1 : catD false (.lst [.tup [.int 0, .int 0], .tup [.int 6, .int 0], .tup [.int 0, .int (-6)], .tup [.int 1, .int 2, .int 3], .tup [.int 1], .lst [.int 1, .int 1], .non, .str "0:1", .tup [.bl true, .int 0], .tup [.int 0, .bl false]]) (.lst [.tup [.int 0, .non], .int 3, .tup [], .tup [.int (-6), .int 0], .tup [.int 0, .int 6]]) = some (.lst mv15) := catF (by simp)
  have c2 : catD false (.lst [p23, p24]) (.lst [m]) = some (.lst [p23, p24, m]) := catF (by simp)
  have c3 : catD false (.lst [m]) (.lst [p23, p24]) = some (.lst [m, p23, p24]) := catF (by simp)
  have c4 : catD false (.lst [p23, p24]) (.lst [p24]) = some (.lst [p23, p24, p24]) := catF (by simp)
  have cu : cutD [p23, p24] (some 1) none = [p24] := rfl
  generalize hM : many9 = M9 at *
  have c5 : catD false (.lst [.lst [p23, p24, m], .lst [m, p23, p24], .lst [p24, p23], .lst [p23, p24, p24]]) (.lst [.lst M9, .tup [p23, p24], .non, .dct [] [], .str "", .lst [.lst [p23, p24]]]) = some (.lst [.lst [p23, p24, m], .lst [m, p23, p24], .lst [p24, p23], .lst [p23, p24, p24], .lst M9, .tup [p23, p24], .non, .dct [] [], .str "", .lst [.lst [p23, p24]]]) := catF (by simp)
  refine ⟨d2, bad, m, .lst [.lst [p23, p24, m], .lst [m, p23, p24], .lst [p24, p23], .lst [p23, p24, p24]], .lst M9, ?_, k2, nb⟩
  simp [i73, -r_lcr, f1, f2, putP, c1, em, EM, c2, c3, c4, cu, okLf, revK, c5, eb, r_tpl, tplF]
theorem z7 {d : D} (hd : StoreOk d) {T : List D} {wd : Nat} (hT : Tab T wd) {st ju : List (Int × Int)} (hs : MovOk st) (hj : MovOk ju) {L : List D} (hL : L.length = 14) (nL : AP NoT L) {bad : D} (nb : NoM bad) {x2 x3 x4 x5 x6 x7 x9 x10 x12 x18 x19 : Option D} {ln : D} :
    ∃ (d' r : D) (Γ' : CW.Env), evSs h73 (i73.drop 25) [some d, some ln, x2, x3, x4, x5, x6, x7, some (.lst L), x9, x10, some (.lst [p23, p24]), x12, some bad, none, some (.lst T), some (movD st), some (movD ju), x18, x19] = .rt r (some d' :: some ln :: Γ') ∧ StoreOk d' ∧ NoL r := by
  have t1 := hT.hi
  obtain ⟨r, d1, e1, k1, p1, q1⟩ := w27 hd (m := 14) (by decide)
  obtain ⟨s, d2, e2, k2, p2, q2⟩ := w27 k1 (m := 17) (by decide)
  have f1 : h73.f 27 [d, .int 14] = .ok (.int r) [d1, .int 14] := e1
  have f2 : h73.f 27 [d1, .int 17] = .ok (.int s) [d2, .int 17] := e2
  obtain ⟨o, eo, no⟩ := ap_at nL p1 (by rw [hL]; exact q1)
  have ls := hs.len
  have lj := hj.len
  have mvw : ∀ {ps : List (Int × Int)}, MovOk ps → wf [42, 42, 3] (movD ps) = true := fun {ps} h => wf_l (by rw [List.length_map]; have := h.len; omega) (aw_map fun p hp => by
    obtain ⟨o1, o2, _⟩ := h.ok p hp
    exact wf_t (by simp) (aw_cons (int_small (by omega) _) (aw_one (int_small (by omega) _))))
  have wS := mvw hs
  have wJ := mvw hj
  have wT : wf [42, 42, 3] (.lst T) = true := wf_l (by omega) hT.aw
  have wT0 : wf dims (.lst T) = true := wf_l (by omega) (fun x hx => by
    obtain ⟨R, rfl, hR, _⟩ := hT.row x hx
    exact wf_l (by have := hR.len; omega) (hR.aw _))
  have wN : wf [42, 42, 3] (.lst []) = true := wf_l (by simp) aw_nil
  obtain ⟨w2, w3⟩ := w23
  have wF : wf [42, 42, 3] (.lst [p23, p24]) = true := wf_l (by simp) (aw_cons w2 (aw_one w3))
  have wp : ∀ i j : Int, -1000 ≤ i ∧ i ≤ 1000 → -1000 ≤ j ∧ j ≤ 1000 → wf [42, 3] (.tup [.int i, .int j]) = true := fun i j hi hj => wf_t (by simp) (aw_cons (int_small hi _) (aw_one (int_small hj _)))
  have w10 : wf [42, 42, 3] (.lst [.tup [.int 1, .int 0]]) = true := wf_l (by simp) (aw_one (wp _ _ (by omega) (by omega)))
  have w01 : wf [42, 42, 3] (.lst [.tup [.int 0, .int 1], .tup [.int 1, .int 0]]) = true := wf_l (by simp) (aw_cons (wp _ _ (by omega) (by omega)) (aw_one (wp _ _ (by omega) (by omega))))
  generalize movD st = S at *
  generalize movD ju = J at *
  have AA : AP NoL [.tup [.lst T, bad, .lst []], .tup [.lst T, .lst [], bad], .tup [.lst T, .lst [p23, p24], .lst [p23, p24]], .tup [.lst T, .lst [.tup [.int 1, .int 0]], .lst [.tup [.int 0, .int 1], .tup [.int 1, .int 0]]], .tup [o, S, J], .tup [o, S, J], .tup [o, S, J], .tup [.lst T, S], .tup [.lst T, S, J, .lst []], .lst [.lst T, S, J], .lst T, .non, .int 0, .str "", .dct [] [], .bl true, .tup []] :=
    ap_cons (noL_s wT nb wN) (ap_cons (noL_j wT wN nb) (ap_cons (noL_d wT wF wF (by decide)) (ap_cons (noL_d wT w10 w01 (by decide)) (ap_cons (noL_t no wS wJ) (ap_cons (noL_t no wS wJ) (ap_cons (noL_t no wS wJ) (ap_cons (noL_n (fun _ _ _ z => nomatch z) (wf_t (by simp) (aw_cons wT (aw_one wS)))) (ap_cons (noL_n (fun _ _ _ z => nomatch z) (wf_t (by simp) (aw_cons wT (aw_cons wS (aw_cons wJ (aw_one wN)))))) (ap_cons (noL_n (fun _ _ _ z => nomatch z) (wf_l (by simp) (aw_cons wT (aw_cons wS (aw_one wJ))))) (ap_cons (noL_n (fun _ _ _ z => nomatch z) wT0) (ap_cons (noL_n (fun _ _ _ z => nomatch z) rfl) (ap_cons (noL_n (fun _ _ _ z => nomatch z) (int_small (by omega) _)) (ap_cons (noL_n (fun _ _ _ z => nomatch z) (wf_leaf (by decide) _)) (ap_cons (noL_n (fun _ _ _ z => nomatch z) rfl) (ap_cons (noL_n (fun _ _ _ z => nomatch z) rfl) (ap_one (noL_n (fun _ _ _ z => nomatch z) (wf_t (by simp) aw_nil))))))))))))))))))
  obtain ⟨x, ex, nx⟩ := ap_at AA p2 q2
  have hz : (4096 : Nat) < sizeLine := by decide
  have l3 : (3 : Nat) < sizeLine := by omega
  have r3 : repD false (.lst [.tup [o, S, J]]) (.int 3) = some (.lst [.tup [o, S, J], .tup [o, S, J], .tup [o, S, J]]) := repF (by simp) (by omega)
  have c1 : catD false (.lst [.tup [.lst T, bad, .lst []], .tup [.lst T, .lst [], bad], .tup [.lst T, .lst [p23, p24], .lst [p23, p24]], .tup [.lst T, .lst [.tup [.int 1, .int 0]], .lst [.tup [.int 0, .int 1], .tup [.int 1, .int 0]]]]) (.lst [.tup [o, S, J], .tup [o, S, J], .tup [o, S, J]]) = some (.lst [.tup [.lst T, bad, .lst []], .tup [.lst T, .lst [], bad], .tup [.lst T, .lst [p23, p24], .lst [p23, p24]], .tup [.lst T, .lst [.tup [.int 1, .int 0]], .lst [.tup [.int 0, .int 1], .tup [.int 1, .int 0]]], .tup [o, S, J], .tup [o, S, J], .tup [o, S, J]]) := catF (by simp)
  have c2 := fun A hA => catF (a := A) (b := [.tup [.lst T, S], .tup [.lst T, S, J, .lst []]]) hA
  have c3 := fun A hA => catF (a := A) (b := [.lst [.lst T, S, J], .lst T, .non, .int 0, .str "", .dct [] [], .bl true, .tup []]) hA
  refine ⟨d2, x, [x2, x3, x4, x5, x6, x7, some (.lst L), x9, x10, some (.lst [p23, p24]), x12, some bad, some (.lst [.tup [.lst T, bad, .lst []], .tup [.lst T, .lst [], bad], .tup [.lst T, .lst [p23, p24], .lst [p23, p24]], .tup [.lst T, .lst [.tup [.int 1, .int 0]], .lst [.tup [.int 0, .int 1], .tup [.int 1, .int 0]]], .tup [o, S, J], .tup [o, S, J], .tup [o, S, J], .tup [.lst T, S], .tup [.lst T, S, J, .lst []], .lst [.lst T, S, J], .lst T, .non, .int 0, .str "", .dct [] [], .bl true, .tup []]), some (.lst T), some S, some J, x18, x19], ?_, k2, nx⟩
  simp [i73, lsAt, appK, l3, f1, f2, putP, eo, r_rep, r3, c1, c2, c3, ex]
end CWL
namespace CWL
open PySem L2 CW
def negP (p : Int × Int) : Int × Int := (-p.1, -p.2)
def negT (rows : List (List Int)) : List (List Int) := rows.map (List.map fun n => -n)
def tM (ms : List (Int × Int)) : List (Int × Int) := (ms.map negP).mergeSort leP
abbrev rowD (r : List Int) : D := .lst (r.map .int)
theorem neg_nodup {ms : List (Int × Int)} (h : ms.Nodup) : (ms.map negP).Nodup := by
  refine List.Pairwise.map negP (fun a b hab e => hab ?_) h
  unfold negP at e
  have h1 := congrArg Prod.fst e
  have h2 := congrArg Prod.snd e
  simp only at h1 h2
  exact Prod.ext (by omega) (by omega)
theorem tM_ok {ms : List (Int × Int)} (h : MovOk ms) : MovOk (tM ms) := by
  refine sorted_ok (neg_nodup (up_nodup h.up)) (fun p hp => ?_) (by rw [List.length_map]; exact h.len)
  obtain ⟨q, hq, rfl⟩ := List.mem_map.mp hp
  obtain ⟨a, b, c⟩ := h.ok q hq
  unfold okM negP
  refine ⟨by simp only; omega, by simp only; omega, ?_⟩
  simp only
  omega
theorem tM_dj {st ju : List (Int × Int)} (h : ∀ p ∈ st, p ∉ ju) : ∀ p ∈ tM st, p ∉ tM ju := fun p hp hq => by
  obtain ⟨a, ha, rfl⟩ := List.mem_map.mp (List.mem_mergeSort.mp hp)
  obtain ⟨b, hb, e⟩ := List.mem_map.mp (List.mem_mergeSort.mp hq)
  unfold negP at e
  have h1 := congrArg Prod.fst e
  have h2 := congrArg Prod.snd e
  simp only at h1 h2
  have : a = b := Prod.ext (by omega) (by omega)
  exact h a ha (this ▸ hb)
theorem negT_ok {rows : List (List Int)} {wd : Nat} {st ju : List (Int × Int)} (h : LandOk rows wd st ju) : LandOk (negT rows) wd (tM st) (tM ju) :=
  ⟨by unfold negT; rw [List.length_map]; exact h.hi, h.wi, fun r hr => by
    obtain ⟨r', h', rfl⟩ := List.mem_map.mp hr
    rw [List.length_map]
    exact h.row r' h', tM_ok h.sto, tM_ok h.juo, tM_dj h.dj⟩
/-! turned about -/
theorem w24p {ms : List (Int × Int)} {x0 x1 x2 x3 x4 x5 x6 x7 : Option D} : ∃ z8 z9, compL (compT h24 [8, 9] (.tup [.nm 8 false, .nm 9 false]) none (.tup [.bin .sub (.cn (.int 0)) (.var 8), .bin .sub (.cn (.int 0)) (.var 9)])) (ms.map pairD) [] [x0, x1, x2, x3, x4, x5, x6, x7, none, none] = .ok ((ms.map negP).map pairD) [x0, x1, x2, x3, x4, x5, x6, x7, z8, z9] := by
  obtain ⟨Γ', e, z8, z9, rfl⟩ := comp_map (T := compT h24 [8, 9] (.tup [.nm 8 false, .nm 9 false]) none (.tup [.bin .sub (.cn (.int 0)) (.var 8), .bin .sub (.cn (.int 0)) (.var 9)])) (emb := pairD) (emb' := pairD) (f := negP) (fun Γ => ∃ z8 z9, Γ = [x0, x1, x2, x3, x4, x5, x6, x7, z8, z9]) (l := ms) (acc := []) (Γ := [x0, x1, x2, x3, x4, x5, x6, x7, none, none]) (fun p _ Γ ⟨z8, z9, hΓ⟩ => by
    subst hΓ
    refine ⟨[x0, x1, x2, x3, x4, x5, x6, x7, some (.int p.1), some (.int p.2)], ?_, _, _, rfl⟩
    unfold compT
    simp [Tg.bind, Tg.binds, wipeE, pairD, negP]) ⟨none, none, rfl⟩
  exact ⟨z8, z9, e⟩
theorem w24m {st ju : List (Int × Int)} {x0 x1 x2 x3 x4 x6 x7 : Option D} : ∃ z5, compL (compT h24 [5] (.nm 5 false) none (.mk .sorted true (.lcl false [8, 9] (.tup [.nm 8 false, .nm 9 false]) (.var 5) none (.tup [.bin .sub (.cn (.int 0)) (.var 8), .bin .sub (.cn (.int 0)) (.var 9)])))) [movD st, movD ju] [] [x0, x1, x2, x3, x4, none, x6, x7, none, none] = .ok [movD (tM st), movD (tM ju)] [x0, x1, x2, x3, x4, z5, x6, x7, none, none] := by
  obtain ⟨Γ', e, z5, rfl⟩ := comp_map (T := compT h24 [5] (.nm 5 false) none (.mk .sorted true (.lcl false [8, 9] (.tup [.nm 8 false, .nm 9 false]) (.var 5) none (.tup [.bin .sub (.cn (.int 0)) (.var 8), .bin .sub (.cn (.int 0)) (.var 9)])))) (emb := movD) (emb' := movD) (f := tM) (fun Γ => ∃ z5, Γ = [x0, x1, x2, x3, x4, z5, x6, x7, none, none]) (l := [st, ju]) (acc := []) (Γ := [x0, x1, x2, x3, x4, none, x6, x7, none, none]) (fun ms _ Γ ⟨z5, hΓ⟩ => by
    subst hΓ
    obtain ⟨z8, z9, e⟩ := w24p (ms := ms) (x0 := x0) (x1 := x1) (x2 := x2) (x3 := x3) (x4 := x4) (x5 := some (movD ms)) (x6 := x6) (x7 := x7)
    have it : itemsOf false (movD ms) = some (ms.map pairD) := rfl
    have hs := sort_mov (ck := true) (ps := ms.map negP)
    refine ⟨[x0, x1, x2, x3, x4, some (movD ms), x6, x7, none, none], ?_, _, rfl⟩
    rw [compT_nm (by rfl)]
    simp [it, wipeE, -List.map_map]
    rw [e]
    simp [hs, backE, tM, movD, -List.map_map]) ⟨none, rfl⟩
  exact ⟨z5, e⟩
theorem w24t {rows : List (List Int)} {x0 x1 x2 x3 x4 x5 x8 x9 : Option D} : ∃ z6, compL (compT h24 [6] (.nm 6 false) none (.lcl false [7] (.nm 7 false) (.var 6) none (.bin .sub (.cn (.int 0)) (.var 7)))) (rows.map rowD) [] [x0, x1, x2, x3, x4, x5, none, none, x8, x9] = .ok ((negT rows).map rowD) [x0, x1, x2, x3, x4, x5, z6, none, x8, x9] := by
  obtain ⟨Γ', e, z6, rfl⟩ := comp_map (T := compT h24 [6] (.nm 6 false) none (.lcl false [7] (.nm 7 false) (.var 6) none (.bin .sub (.cn (.int 0)) (.var 7)))) (emb := rowD) (emb' := rowD) (f := List.map fun n => -n) (fun Γ => ∃ z6, Γ = [x0, x1, x2, x3, x4, x5, z6, none, x8, x9]) (l := rows) (acc := []) (Γ := [x0, x1, x2, x3, x4, x5, none, none, x8, x9]) (fun r _ Γ ⟨z6, hΓ⟩ => by
    subst hΓ
    obtain ⟨Γ2, e2, z7, rfl⟩ := comp_map (T := compT h24 [7] (.nm 7 false) none (.bin .sub (.cn (.int 0)) (.var 7))) (emb := D.int) (emb' := D.int) (f := fun n => -n) (fun Γ => ∃ z7, Γ = [x0, x1, x2, x3, x4, x5, some (rowD r), z7, x8, x9]) (l := r) (acc := []) (Γ := [x0, x1, x2, x3, x4, x5, some (rowD r), none, x8, x9]) (fun n _ Γ ⟨z7, hΓ⟩ => by
      subst hΓ
      refine ⟨[x0, x1, x2, x3, x4, x5, some (rowD r), some (.int n), x8, x9], ?_, _, rfl⟩
      rw [compT_nm (by rfl)]
      simp) ⟨none, rfl⟩
    refine ⟨[x0, x1, x2, x3, x4, x5, some (rowD r), none, x8, x9], ?_, _, rfl⟩
    rw [compT_nm (by rfl)]
    simp [itemsOf, -List.map_map]
    rw [e2]
    simp [-List.map_map]) ⟨none, rfl⟩
  exact ⟨z6, e⟩
theorem w24 {rows : List (List Int)} {wd : Nat} {st ju : List (Int × Int)} (h : LandOk rows wd st ju) : g24 [landD rows st ju] = .ok (landD (negT rows) (tM st) (tM ju)) [landD rows st ju] := by
  have tb : ∀ Γ : CW.Env, Tg.bind (.tup [.nm 2 false, .nm 3 false, .nm 4 false]) (landD rows st ju) Γ = some (CW.put (CW.put (CW.put Γ 2 (tabD rows)) 3 (movD st)) 4 (movD ju)) := fun Γ => by
    simp [Tg.bind, Tg.binds, landD]
  obtain ⟨z5, e5⟩ := w24m (st := st) (ju := ju) (x0 := some (landD rows st ju)) (x1 := none) (x2 := some (tabD rows)) (x3 := some (movD st)) (x4 := some (movD ju)) (x6 := none) (x7 := none)
  obtain ⟨z6, e6⟩ := w24t (rows := rows) (x0 := some (landD rows st ju)) (x1 := some (.lst [movD (tM st), movD (tM ju)])) (x2 := some (tabD rows)) (x3 := some (movD st)) (x4 := some (movD ju)) (x5 := none) (x8 := none) (x9 := none)
  have itt : itemsOf false (tabD rows) = some (rows.map rowD) := rfl
  have E0 : evSs h24 (i24.take 3) [some (landD rows st ju), none, none, none, none, none, none, none, none, none] = .nx [some (landD rows st ju), some (.lst [movD (tM st), movD (tM ju)]), some (tabD rows), some (movD st), some (movD ju), none, none, none, none, none] := by
    have v5' := v5 h
    simp only [h24] at e5
    simp [i24, h24, v5', tb, itemsOf]
    rw [e5]
    simp
  have E1 : evSs h24 (i24.drop 3) [some (landD rows st ju), some (.lst [movD (tM st), movD (tM ju)]), some (tabD rows), some (movD st), some (movD ju), none, none, none, none, none] = .rt (landD (negT rows) (tM st) (tM ju)) [some (landD rows st ju), none, some (tabD rows), some (movD st), some (movD ju), none, none, none, none, none] := by
    simp [i24, itt, -List.map_map]
    rw [e6]
    simp [twoD, landD, tabD, -List.map_map]
  have E : evSs h24 i24 [some (landD rows st ju), none, none, none, none, none, none, none, none, none] = .rt (landD (negT rows) (tM st) (tM ju)) [some (landD rows st ju), none, some (tabD rows), some (movD st), some (movD ju), none, none, none, none, none] := by
    rw [show i24 = i24.take 3 ++ i24.drop 3 from rfl, evSs_append, E0, seq_nx, E1]
  simp [g24, den, E, outsOf]
/-! what is due -/
def swp (p : Int × Int) : Int × Int := (p.2, p.1)
def col (rows : List (List Int)) (j : Nat) : List Int := rows.map fun r => r.getD j 0
def tr (rows : List (List Int)) (wd : Nat) : List (List Int) := (List.range wd).map (col rows)
def sM (ms : List (Int × Int)) : List (Int × Int) := (ms.map swp).mergeSort leP
theorem swp_nodup {ms : List (Int × Int)} (h : ms.Nodup) : (ms.map swp).Nodup := by
  refine List.Pairwise.map swp (fun a b hab e => hab ?_) h
  unfold swp at e
  have h1 := congrArg Prod.fst e
  have h2 := congrArg Prod.snd e
  simp only at h1 h2
  exact Prod.ext h2 h1
theorem sM_ok {ms : List (Int × Int)} (h : MovOk ms) : MovOk (sM ms) := by
  refine sorted_ok (swp_nodup (up_nodup h.up)) (fun p hp => ?_) (by rw [List.length_map]; exact h.len)
  obtain ⟨q, hq, rfl⟩ := List.mem_map.mp hp
  obtain ⟨a, b, c⟩ := h.ok q hq
  exact ⟨b, a, fun e => c ⟨e.2, e.1⟩⟩
theorem sM_dj {st ju : List (Int × Int)} (h : ∀ p ∈ st, p ∉ ju) : ∀ p ∈ sM st, p ∉ sM ju := fun p hp hq => by
  obtain ⟨a, ha, rfl⟩ := List.mem_map.mp (List.mem_mergeSort.mp hp)
  obtain ⟨b, hb, e⟩ := List.mem_map.mp (List.mem_mergeSort.mp hq)
  unfold swp at e
  have h1 := congrArg Prod.fst e
  have h2 := congrArg Prod.snd e
  simp only at h1 h2
  have : a = b := Prod.ext h2.symm h1.symm
  exact h a ha (this ▸ hb)
theorem tr_ok {rows : List (List Int)} {wd : Nat} {st ju : List (Int × Int)} (h : LandOk rows wd st ju) : LandOk (tr rows wd) rows.length (sM st) (sM ju) :=
  ⟨by unfold tr; rw [List.length_map, List.length_range]; exact h.wi, h.hi, fun r hr => by
    obtain ⟨j, _, rfl⟩ := List.mem_map.mp hr
    unfold col
    rw [List.length_map], sM_ok h.sto, sM_ok h.juo, sM_dj h.dj⟩
/-! laid over -/
theorem w37p {ms : List (Int × Int)} {x0 x1 x2 x3 x4 x5 x6 x7 : Option D} : ∃ z8 z9, compL (compT h37 [8, 9] (.tup [.nm 8 false, .nm 9 false]) none (.tup [.var 9, .var 8])) (ms.map pairD) [] [x0, x1, x2, x3, x4, x5, x6, x7, none, none] = .ok ((ms.map swp).map pairD) [x0, x1, x2, x3, x4, x5, x6, x7, z8, z9] := by
  obtain ⟨Γ', e, z8, z9, rfl⟩ := comp_map (T := compT h37 [8, 9] (.tup [.nm 8 false, .nm 9 false]) none (.tup [.var 9, .var 8])) (emb := pairD) (emb' := pairD) (f := swp) (fun Γ => ∃ z8 z9, Γ = [x0, x1, x2, x3, x4, x5, x6, x7, z8, z9]) (l := ms) (acc := []) (Γ := [x0, x1, x2, x3, x4, x5, x6, x7, none, none]) (fun p _ Γ ⟨z8, z9, hΓ⟩ => by
    subst hΓ
    refine ⟨[x0, x1, x2, x3, x4, x5, x6, x7, some (.int p.1), some (.int p.2)], ?_, _, _, rfl⟩
    unfold compT
    simp [Tg.bind, Tg.binds, wipeE, pairD, swp]) ⟨none, none, rfl⟩
  exact ⟨z8, z9, e⟩
theorem w37m {st ju : List (Int × Int)} {x0 x1 x2 x3 x4 x6 x7 : Option D} : ∃ z5, compL (compT h37 [5] (.nm 5 false) none (.mk .sorted true (.lcl false [8, 9] (.tup [.nm 8 false, .nm 9 false]) (.var 5) none (.tup [.var 9, .var 8])))) [movD st, movD ju] [] [x0, x1, x2, x3, x4, none, x6, x7, none, none] = .ok [movD (sM st), movD (sM ju)] [x0, x1, x2, x3, x4, z5, x6, x7, none, none] := by
  obtain ⟨Γ', e, z5, rfl⟩ := comp_map (T := compT h37 [5] (.nm 5 false) none (.mk .sorted true (.lcl false [8, 9] (.tup [.nm 8 false, .nm 9 false]) (.var 5) none (.tup [.var 9, .var 8])))) (emb := movD) (emb' := movD) (f := sM) (fun Γ => ∃ z5, Γ = [x0, x1, x2, x3, x4, z5, x6, x7, none, none]) (l := [st, ju]) (acc := []) (Γ := [x0, x1, x2, x3, x4, none, x6, x7, none, none]) (fun ms _ Γ ⟨z5, hΓ⟩ => by
    subst hΓ
    obtain ⟨z8, z9, e⟩ := w37p (ms := ms) (x0 := x0) (x1 := x1) (x2 := x2) (x3 := x3) (x4 := x4) (x5 := some (movD ms)) (x6 := x6) (x7 := x7)
    have it : itemsOf false (movD ms) = some (ms.map pairD) := rfl
    have hs := sort_mov (ck := true) (ps := ms.map swp)
    refine ⟨[x0, x1, x2, x3, x4, some (movD ms), x6, x7, none, none], ?_, _, rfl⟩
    rw [compT_nm (by rfl)]
    simp [it, wipeE, -List.map_map]
    rw [e]
    simp [hs, backE, sM, movD, -List.map_map]) ⟨none, rfl⟩
  exact ⟨z5, e⟩
theorem w37t {rows : List (List Int)} {wd : Nat} (hr : ∀ r ∈ rows, r.length = wd) {x0 x1 x3 x4 x5 x8 x9 : Option D} : ∃ z6, compL (compT h37 [6] (.nm 6 false) none (.lcl false [7] (.nm 7 false) (.var 2) none (.chk (.ix (.var 7) (.var 6))))) (rngL 0 wd) [] [x0, x1, some (tabD rows), x3, x4, x5, none, none, x8, x9] = .ok ((tr rows wd).map rowD) [x0, x1, some (tabD rows), x3, x4, x5, z6, none, x8, x9] := by
  have itt : itemsOf false (tabD rows) = some (rows.map rowD) := rfl
  obtain ⟨Γ', e, z6, rfl⟩ := comp_map (T := compT h37 [6] (.nm 6 false) none (.lcl false [7] (.nm 7 false) (.var 2) none (.chk (.ix (.var 7) (.var 6))))) (emb := fun j : Nat => D.int (0 + (j : Int))) (emb' := rowD) (f := col rows) (fun Γ => ∃ z6, Γ = [x0, x1, some (tabD rows), x3, x4, x5, z6, none, x8, x9]) (l := List.range wd) (acc := []) (Γ := [x0, x1, some (tabD rows), x3, x4, x5, none, none, x8, x9]) (fun j hj Γ ⟨z6, hΓ⟩ => by
    subst hΓ
    have hjw : j < wd := List.mem_range.mp hj
    obtain ⟨Γ2, e2, z7, rfl⟩ := comp_map (T := compT h37 [7] (.nm 7 false) none (.chk (.ix (.var 7) (.var 6)))) (emb := rowD) (emb' := D.int) (f := fun r => r.getD j 0) (fun Γ => ∃ z7, Γ = [x0, x1, some (tabD rows), x3, x4, x5, some (.int (j : Int)), z7, x8, x9]) (l := rows) (acc := []) (Γ := [x0, x1, some (tabD rows), x3, x4, x5, some (.int (j : Int)), none, x8, x9]) (fun r hrr Γ ⟨z7, hΓ⟩ => by
      subst hΓ
      have a := row_at (r := r) (b := (j : Int)) (by rw [hr r hrr]; omega)
      rw [Int.toNat_natCast] at a
      refine ⟨[x0, x1, some (tabD rows), x3, x4, x5, some (.int (j : Int)), some (rowD r), x8, x9], ?_, _, rfl⟩
      rw [compT_nm (by rfl)]
      simp [a, -List.getD_eq_getElem?_getD]) ⟨none, rfl⟩
    refine ⟨[x0, x1, some (tabD rows), x3, x4, x5, some (.int (j : Int)), none, x8, x9], ?_, _, rfl⟩
    rw [compT_nm (by rfl)]
    simp [itt, -List.map_map]
    rw [e2]
    simp [col, -List.map_map]) ⟨none, rfl⟩
  exact ⟨z6, e⟩
theorem w37 {rows : List (List Int)} {wd : Nat} {st ju : List (Int × Int)} (h : LandOk rows wd st ju) : g37 [landD rows st ju] = .ok (landD (tr rows wd) (sM st) (sM ju)) [landD rows st ju] := by
  have tb : ∀ Γ : CW.Env, Tg.bind (.tup [.nm 2 false, .nm 3 false, .nm 4 false]) (landD rows st ju) Γ = some (CW.put (CW.put (CW.put Γ 2 (tabD rows)) 3 (movD st)) 4 (movD ju)) := fun Γ => by
    simp [Tg.bind, Tg.binds, landD]
  have hw := h.wi
  have n2 := rng0 (n := (wd : Int)) (by omega)
  rw [Int.toNat_natCast] at n2
  obtain ⟨r, w1, w2, w3⟩ := wide_at h
  obtain ⟨z5, e5⟩ := w37m (st := st) (ju := ju) (x0 := some (landD rows st ju)) (x1 := none) (x2 := some (tabD rows)) (x3 := some (movD st)) (x4 := some (movD ju)) (x6 := none) (x7 := none)
  obtain ⟨z6, e6⟩ := w37t (rows := rows) h.row (x0 := some (landD rows st ju)) (x1 := some (.lst [movD (sM st), movD (sM ju)])) (x3 := some (movD st)) (x4 := some (movD ju)) (x5 := none) (x8 := none) (x9 := none)
  have E0 : evSs h37 (i37.take 3) [some (landD rows st ju), none, none, none, none, none, none, none, none, none] = .nx [some (landD rows st ju), some (.lst [movD (sM st), movD (sM ju)]), some (tabD rows), some (movD st), some (movD ju), none, none, none, none, none] := by
    have v5' := v5 h
    simp only [h37] at e5
    simp [i37, h37, v5', tb, itemsOf]
    rw [e5]
    simp
  have E1 : evSs h37 (i37.drop 3) [some (landD rows st ju), some (.lst [movD (sM st), movD (sM ju)]), some (tabD rows), some (movD st), some (movD ju), none, none, none, none, none] = .rt (landD (tr rows wd) (sM st) (sM ju)) [some (landD rows st ju), none, some (tabD rows), some (movD st), some (movD ju), none, none, none, none, none] := by
    simp [i37, w2, w3, n2, -List.map_map]
    rw [e6]
    simp [twoD, landD, tabD, -List.map_map]
  have E : evSs h37 i37 [some (landD rows st ju), none, none, none, none, none, none, none, none, none] = .rt (landD (tr rows wd) (sM st) (sM ju)) [some (landD rows st ju), none, some (tabD rows), some (movD st), some (movD ju), none, none, none, none, none] := by
    rw [show i37 = i37.take 3 ++ i37.drop 3 from rfl, evSs_append, E0, seq_nx, E1]
  simp [g37, den, E, outsOf]
/-! what is due -/
section
variable {φ : FEnv} {Γ : CW.Env}
@[simp] theorem r_raise {c : Nat} : evS φ (.raise c) Γ = .exc c Γ := by simp only [evS]
@[simp] theorem r_tryK {x e : Nat} {cs : List Nat} {b : List S} : evS φ (.tryK x e cs b) Γ = (evSs φ b Γ).caught x e cs := by simp only [evS]
@[simp] theorem r_isx {ys ns : List Nat} {a : CW.E} : evE φ (.isx ys ns a) Γ = (evE φ a Γ).bind fun x => R.ofo (isxD ys ns x) := by simp only [evE]
@[simp] theorem caught_nx {x e : Nat} {cs : List Nat} : SR.caught (.nx Γ) x e cs = .nx Γ := rfl
@[simp] theorem caught_exc {x e c : Nat} {cs : List Nat} : SR.caught (.exc c Γ) x e cs = if c ∈ cs then .nx ((CW.put Γ x (.exn c)).set e none) else .bad := rfl
@[simp] theorem callK_exc {io : List (Nat × Nat)} {c : Nat} {outs : List D} : callK io (.exc c outs) Γ = .exc c (putP Γ io outs) := rfl
theorem r_lcz {own : List Nat} {tg : Tg} {a b : CW.E} {c : Option CW.E} {y : CW.E} : evE φ (.lcz own tg a b c y) Γ = (evE φ a Γ).bind fun x Γ1 => (evE φ b Γ1).bind fun z Γ1 => (R.ofo (zipK x z) Γ1).bind fun ds Γ1 => (compL (compT φ own tg c y) ds [] (wipeE Γ1 own)).bind fun ys Γ2 => .ok (.lst ys) (backE Γ1 Γ2 own) := by simp only [evE]; rfl
end
theorem u5 {d : D} (h : d.nos = true) : g5 [d] = if landB d then .ok .non [d] else .exc 1 [d] := by
  have e := u4 h
  have f : h5.f 4 [d] = .ok (.bl (landB d)) [d] := e
  cases hb : landB d with
  | true =>
    rw [hb] at f
    simp [g5, den, i5, f, outsOf]
  | false =>
    rw [hb] at f
    simp [g5, den, i5, f, outsOf]
theorem u73 {d : D} (hd : StoreOk d) {rows : List (List Int)} {wd : Nat} {st ju : List (Int × Int)} (hl : LandOk rows wd st ju) (hb : ∀ r ∈ rows, ∀ x ∈ r, Bd x) : ∃ r d', g73 [d, landD rows st ju] = .ok r [d', landD rows st ju] ∧ StoreOk d' ∧ NoL r := by
  have hT := tab_of hl hb
  have hs := hl.sto
  have hj := hl.juo
  unfold landD tabD
  generalize rows.map (fun r => D.lst (r.map .int)) = T at *
  obtain ⟨d1, odd, k, p, E1, k1, ho, hk, hp⟩ := z1 hd hT (S := movD st) (J := movD ju)
  obtain ⟨kn, pn, R, a⟩ := at_of hT hk hp
  have E2 := z2 hT a (odd := odd) (x0 := some d1) (x1 := some (.tup [.lst T, movD st, movD ju])) (x6 := none) (x7 := none) (x8 := none) (x9 := none) (x10 := none) (x11 := none) (x12 := none) (x13 := none) (x14 := none) (x16 := some (movD st)) (x17 := some (movD ju)) (x19 := none)
  have nB := noT_bent hT a ho.1 ho.2
  have nU := noT_uneven hT a
  have E3 := z3 hT a (x0 := some d1) (x1 := some (.tup [.lst T, movD st, movD ju])) (x4 := none) (x5 := some (.lst (T.set kn (.lst (R.set pn odd))))) (x7 := none) (x8 := none) (x9 := none) (x10 := none) (x11 := none) (x12 := none) (x13 := none) (x14 := none) (x16 := some (movD st)) (x17 := some (movD ju)) (x19 := none)
  generalize D.lst (T.set kn (.lst (R.set pn odd))) = B at *
  generalize D.lst (T.set kn (.lst (R ++ [.int 1])) ++ [.lst (List.replicate wd (.int 1))]) = U at *
  obtain ⟨V, E4, nV⟩ := z4 hT a (x0 := some d1) (x1 := some (.tup [.lst T, movD st, movD ju])) (x3 := some (.int p)) (x4 := none) (x5 := some B) (x6 := some U) (x8 := none) (x9 := none) (x10 := none) (x11 := none) (x12 := none) (x13 := none) (x14 := none) (x16 := some (movD st)) (x17 := some (movD ju)) (x19 := none)
  obtain ⟨L, E5, lL, nL⟩ := z5 hT nB nU nV (x0 := some d1) (x1 := some (.tup [.lst T, movD st, movD ju])) (x2 := some (.int k)) (x3 := some (.int p)) (x4 := none) (x9 := none) (x10 := none) (x11 := none) (x12 := none) (x13 := none) (x14 := none) (x16 := some (movD st)) (x17 := some (movD ju)) (x19 := none)
  obtain ⟨d2, bad, m, by_, mn, E6, k2, nb⟩ := z6 k1 (x1 := some (.tup [.lst T, movD st, movD ju])) (x2 := some (.int k)) (x3 := some (.int p)) (x4 := none) (x5 := some B) (x6 := some U) (x7 := some (.lst V)) (x8 := some (.lst L)) (x15 := some (.lst T)) (x16 := some (movD st)) (x17 := some (movD ju)) (x18 := none)
  obtain ⟨d3, r, Γ', E7, k3, nr⟩ := z7 k2 hT hs hj lL nL nb (ln := .tup [.lst T, movD st, movD ju]) (x2 := some (.int k)) (x3 := some (.int p)) (x4 := none) (x5 := some B) (x6 := some U) (x7 := some (.lst V)) (x9 := some m) (x10 := some mn) (x12 := some by_) (x18 := none) (x19 := none)
  refine ⟨r, d3, ?_, k3, nr⟩
  have e : i73 = i73.take 4 ++ ((i73.drop 4).take 3 ++ ((i73.drop 7).take 4 ++ ((i73.drop 11).take 4 ++ ((i73.drop 15).take 4 ++ ((i73.drop 19).take 6 ++ i73.drop 25))))) := rfl
  have E : evSs h73 i73 [some d, some (.tup [.lst T, movD st, movD ju]), none, none, none, none, none, none, none, none, none, none, none, none, none, none, none, none, none, none] = .rt r (some d3 :: some (.tup [.lst T, movD st, movD ju]) :: Γ') := by
    rw [e, evSs_append, E1, seq_nx, evSs_append, E2, seq_nx, evSs_append, E3, seq_nx, evSs_append, E4, seq_nx, evSs_append, E5, seq_nx, evSs_append, E6, seq_nx, E7]
  simp [g73, den, E, outsOf]
end CWL
namespace CWL
open PySem L2 CW
abbrev words8 : List Str := ["land", "cell", "number", "way", "weights", "text", "name", "row"]
theorem u74 : g74 [.exn 1, .str "land"] = .ok (.bl true) [.exn 1, .str "land"] := by
  have c1 : catD false (.lst [.bl true, .bl false, .bl false, .bl false]) (.lst [.bl false, .bl false, .bl false, .bl false]) = some (.lst [.bl true, .bl false, .bl false, .bl false, .bl false, .bl false, .bl false, .bl false]) := catF (by simp)
  have zk : zipK (.lst (words8.map .str)) (.lst [.bl true, .bl false, .bl false, .bl false, .bl false, .bl false, .bl false, .bl false]) = some ([(("land" : Str), true), ("cell", false), ("number", false), ("way", false), ("weights", false), ("text", false), ("name", false), ("row", false)].map fun p => D.tup [.str p.1, .bl p.2]) := rfl
  have L : evE h74 (.lcz [5, 6] (.tup [.nm 5 false, .nm 6 false]) (.var 3) (.var 2) (some (.var 6)) (.var 5)) [some (.exn 1), some (.str "land"), some (.lst [.bl true, .bl false, .bl false, .bl false, .bl false, .bl false, .bl false, .bl false]), some (.lst (words8.map .str)), none, none, none] = .ok (.lst [.str "land"]) [some (.exn 1), some (.str "land"), some (.lst [.bl true, .bl false, .bl false, .bl false, .bl false, .bl false, .bl false, .bl false]), some (.lst (words8.map .str)), none, none, none] := by
    obtain ⟨Γ2, e, w⟩ := comp_b (φ := h74) (own := [5, 6]) (tg := .tup [.nm 5 false, .nm 6 false]) (c := some (.var 6)) (elt := .var 5) (Γ := [some (.exn 1), some (.str "land"), some (.lst [.bl true, .bl false, .bl false, .bl false, .bl false, .bl false, .bl false, .bl false]), some (.lst (words8.map .str)), none, none, none]) (fun p : Str × Bool => D.tup [.str p.1, .bl p.2]) D.str (fun p => p.1) (fun p => p.2) (fun p => [some (.exn 1), some (.str "land"), some (.lst [.bl true, .bl false, .bl false, .bl false, .bl false, .bl false, .bl false, .bl false]), some (.lst (words8.map .str)), none, some (.str p.1), some (.bl p.2)]) (l := [(("land" : Str), true), ("cell", false), ("number", false), ("way", false), ("weights", false), ("text", false), ("name", false), ("row", false)]) (acc := []) wipe_twice (fun p hp => ⟨rfl, rfl, by simp, fun _ => by simp⟩)
    rw [r_lcz, r_var]
    show (R.ofo (some (D.lst (words8.map .str))) _).bind _ = _
    rw [ofo_some, bind_ok, r_var]
    show (R.ofo (some (D.lst [.bl true, .bl false, .bl false, .bl false, .bl false, .bl false, .bl false, .bl false])) _).bind _ = _
    rw [ofo_some, bind_ok, zk, ofo_some, bind_ok, e, bind_ok, wipe_back w]
    rfl
  have eqL : Cop.sem .eq (.lst [.str "land"]) (.lst [.str "land"]) = some true := by
    have s : PyData.strOk ("land" : Str) = true := by decide +kernel
    have : eqOk (.lst [.str "land"]) (.lst [.str "land"]) = true := by simp [eqOk, D.shp, s]
    rw [c_eq, if_pos this]
    simp [eqD]
  simp only [List.map_cons, List.map_nil] at L
  simp [g74, den, i74, isxD, c1, L, eqL, -c_eq, outsOf]
theorem eq_int {a b : Int} : Cop.sem .eq (.int a) (.int b) = some (decide (a = b)) := by
  rw [c_eq, if_pos (show eqOk (.int a) (.int b) = true from rfl)]
  simp only [eqD]
  congr 1
@[simp] theorem chkK_str {s : Str} {Γ : CW.Env} : chkK (.str s) Γ = .ok (.str s) Γ := by simp [chkK]
theorem isn_exn {c : Nat} : Cop.sem .isn (.exn c) .non = some false := rfl
theorem isn_non : Cop.sem .isn .non .non = some true := rfl
/-- what is no land is refused -/
theorem u75n {d : D} (hd : d.nos = true) (hb : landB d = false) {w : Int} : g75 [.int w, d] = .ok (.str "land") [.int w, d] := by
  have e := u5 hd
  rw [hb] at e
  have f1 : h24.f 5 [d] = .exc 1 [d] := e
  have f2 : h37.f 5 [d] = .exc 1 [d] := e
  have e1 : g24 [d] = .exc 1 [d] := by simp [g24, den, i24, f1, outsOf]
  have e2 : g37 [d] = .exc 1 [d] := by simp [g37, den, i37, f2, outsOf]
  have k1 : h75.f 24 [d] = .exc 1 [d] := e1
  have k2 : h75.f 37 [d] = .exc 1 [d] := e2
  have k3 : h75.f 74 [.exn 1, .str "land"] = .ok (.bl true) [.exn 1, .str "land"] := u74
  by_cases c0 : w = 0
  · simp [g75, den, i75, k1, k3, eq_int, -c_eq, c0, isn_exn, outsOf]
  · simp [g75, den, i75, k2, k3, eq_int, -c_eq, c0, isn_exn, outsOf]
theorem u75t {rows : List (List Int)} {wd : Nat} {st ju : List (Int × Int)} (hl : LandOk rows wd st ju) {w : Int} : g75 [.int w, landD rows st ju] = .ok (.str "told") [.int w, landD rows st ju] := by
  have k1 : h75.f 24 [landD rows st ju] = _ := w24 hl
  have k2 : h75.f 37 [landD rows st ju] = _ := w37 hl
  by_cases c0 : w = 0
  · simp [g75, den, i75, k1, eq_int, -c_eq, c0, isn_non, outsOf]
  · simp [g75, den, i75, k2, eq_int, -c_eq, c0, isn_non, outsOf]
abbrev w76 : List S := [.ite (.or (.cmp .ne (.call 75 [.var 8, .var 6] []) (.cn (.str "land"))) (.cmp .ne (.call 75 [.var 8, .var 4] []) (.cn (.str "told")))) [.ret (.cn (.bl false))] []]
abbrev t76 : List S := [.asg 6 (.call 73 [.var 2, .var 3] [(0, 2)]), .asg 7 (.rpr (.var 6)), .forr (.nm 8 false) [.cn (.int 2)] w76, .ite (.or (.cmp .ne (.rpr (.var 6)) (.var 7)) (.cmp .ne (.var 4) (.var 3))) [.ret (.cn (.bl false))] []]
abbrev k76 : List S := [.asg 2 (.call 26 [.call 25 [.var 0, .var 1] []] []), .asg 3 (.call 31 [.var 2] [(0, 2)]), .asg 4 (.call 32 [.var 3] []), .forr (.nm 5 false) [.cn (.int 8)] t76]
theorem ne_land {rows : List (List Int)} {st ju : List (Int × Int)} : Cop.sem .ne (landD rows st ju) (landD rows st ju) = some false := by
  have h : (landD rows st ju).shp 64 = true := shp_land (n := 61)
  have e : eqOk (landD rows st ju) (landD rows st ju) = true := by
    unfold eqOk
    rw [h]
    rfl
  rw [c_ne, if_pos e, eqD_refl h]
  rfl
section
variable {rows : List (List Int)} {wd : Nat} {st ju : List (Int × Int)}
theorem a76 (hl : LandOk rows wd st ju) {c : D} (nc : NoL c) {s at_ sto ld tn kp z : Option D} : ∃ z', forL (turnOf h76 (.nm 8 false) w76) (rngL 0 2) [s, at_, sto, ld, some (landD rows st ju), tn, some c, kp, z] = .nx [s, at_, sto, ld, some (landD rows st ju), tn, some c, kp, z'] := by
  obtain ⟨hn, _⟩ := wf_rep nc.2
  obtain ⟨Γ', e1, z', rfl⟩ := forL_inv (turn := turnOf h76 (.nm 8 false) w76) (fun _ Γ => ∃ z, Γ = [s, at_, sto, ld, some (landD rows st ju), tn, some c, kp, z]) (ds := rngL 0 2) (k := 0) (Γ := [s, at_, sto, ld, some (landD rows st ju), tn, some c, kp, z]) (fun i y Γ hy ⟨z, hΓ⟩ => by
    subst hΓ
    obtain ⟨hi, rfl⟩ := rngL_at hy
    have f1 : h76.f 75 [.int (0 + (i : Int)), c] = .ok (.str "land") [.int (0 + (i : Int)), c] := u75n hn nc.1
    have f2 : h76.f 75 [.int (0 + (i : Int)), landD rows st ju] = .ok (.str "told") [.int (0 + (i : Int)), landD rows st ju] := u75t hl
    generalize 0 + (i : Int) = w at *
    rw [turn_nm (by rfl)]
    refine ⟨[s, at_, sto, ld, some (landD rows st ju), tn, some c, kp, some (.int w)], ?_, some (.int w), rfl⟩
    simp [f1, f2, ne_str, -c_ne]) ⟨z, rfl⟩
  exact ⟨z', e1⟩
theorem b76 {d : D} (hd : StoreOk d) (hl : LandOk rows wd st ju) (hb : ∀ r ∈ rows, ∀ x ∈ r, Bd x) {s at_ z5 z6 z7 z8 : Option D} : ∃ d' y5 y6 y7 y8, forL (turnOf h76 (.nm 5 false) t76) (rngL 0 8) [s, at_, some d, some (landD rows st ju), some (landD rows st ju), z5, z6, z7, z8] = .nx [s, at_, some d', some (landD rows st ju), some (landD rows st ju), y5, y6, y7, y8] ∧ StoreOk d' := by
  obtain ⟨Γ', e1, d', y5, y6, y7, y8, k', rfl⟩ := forL_inv (turn := turnOf h76 (.nm 5 false) t76) (fun _ Γ => ∃ d y5 y6 y7 y8, StoreOk d ∧ Γ = [s, at_, some d, some (landD rows st ju), some (landD rows st ju), y5, y6, y7, y8]) (ds := rngL 0 8) (k := 0) (Γ := [s, at_, some d, some (landD rows st ju), some (landD rows st ju), z5, z6, z7, z8]) (fun i y Γ hy ⟨d, y5, y6, y7, y8, hk, hΓ⟩ => by
    subst hΓ
    obtain ⟨c, d1, e1, k1, nc⟩ := u73 hk hl hb
    have f1 : h76.f 73 [d, landD rows st ju] = .ok c [d1, landD rows st ju] := e1
    obtain ⟨hn, hr⟩ := wf_rep nc.2
    have r2 := rng0 (n := 2) (by omega)
    rw [show (2 : Int).toNat = 2 from rfl] at r2
    obtain ⟨z', e2⟩ := a76 hl nc (s := s) (at_ := at_) (sto := some d1) (ld := some (landD rows st ju)) (tn := some y) (kp := some (.str (shownD c))) (z := y8)
    rw [turn_nm (by rfl)]
    refine ⟨[s, at_, some d1, some (landD rows st ju), some (landD rows st ju), some y, some c, some (.str (shownD c)), z'], ?_, d1, _, _, _, _, k1, rfl⟩
    simp [f1, putP, r_rpr, hr, r2, e2, ne_str, ne_land, -c_ne]) ⟨d, z5, z6, z7, z8, hd, rfl⟩
  exact ⟨d', y5, y6, y7, y8, e1, k'⟩
end
theorem m76k {ns : List Int} {k : Nat} (hk : k ≤ 11) {z2 z3 z4 z5 z6 z7 z8 : Option D} : ∃ y2 y3 y4 y5 y6 y7 y8, evSs h76 k76 [some (.scr ns), some (.int (k : Int)), z2, z3, z4, z5, z6, z7, z8] = .nx [some (.scr ns), some (.int (k : Int)), y2, y3, y4, y5, y6, y7, y8] := by
  obtain ⟨c, e1⟩ := w25 (ns := ns) (k := k) (by omega)
  obtain ⟨d, e2, k2⟩ := w26 (c := c)
  obtain ⟨d1, rows, wd, st, ju, e3, k3, hl, hb⟩ := w31 k2
  have f1 : h76.f 25 [.scr ns, .int (k : Int)] = .ok (.int c) [.scr ns, .int (k : Int)] := e1
  have f2 : h76.f 26 [.int c] = .ok d [.int c] := e2
  have f3 : h76.f 31 [d] = .ok (landD rows st ju) [d1] := e3
  have f4 : h76.f 32 [landD rows st ju] = .ok (landD rows st ju) [landD rows st ju] := w32
  obtain ⟨d2, y5, y6, y7, y8, e4, _⟩ := b76 k3 hl hb (s := some (.scr ns)) (at_ := some (.int (k : Int))) (z5 := z5) (z6 := z6) (z7 := z7) (z8 := z8)
  have r8 := rng0 (n := 8) (by omega)
  rw [show (8 : Int).toNat = 8 from rfl] at r8
  exact ⟨some d2, some (landD rows st ju), some (landD rows st ju), y5, y6, y7, y8, by simp [f1, f2, f3, f4, putP, r8, e4]⟩
theorem law_true (ns : List Int) (h : ns.length ≤ 63) : ∃ outs, g76 [.scr ns] = .ok (.bl true) outs := by
  obtain ⟨N, hN, hN12⟩ : ∃ N : Nat, (if (12 : Int) < (if (ns.length : Int) < 3 then 3 else (ns.length : Int)) then 12 else (if (ns.length : Int) < 3 then 3 else (ns.length : Int))) = (N : Int) ∧ N ≤ 12 := by
    refine ⟨min (max ns.length 3) 12, ?_, by omega⟩
    split <;> split at * <;> omega
  have hr := rng0 (n := (N : Int)) (by omega)
  rw [Int.toNat_natCast] at hr
  obtain ⟨Γ', e1, z1, z2, z3, z4, z5, z6, z7, z8, rfl⟩ := forL_inv (turn := turnOf h76 (.nm 1 false) k76) (fun _ Γ => ∃ z1 z2 z3 z4 z5 z6 z7 z8, Γ = [some (.scr ns), z1, z2, z3, z4, z5, z6, z7, z8]) (ds := rngL 0 N) (k := 0) (Γ := [some (.scr ns), none, none, none, none, none, none, none, none]) (fun i y Γ hy ⟨z1, z2, z3, z4, z5, z6, z7, z8, hΓ⟩ => by
    subst hΓ
    obtain ⟨hi, rfl⟩ := rngL_at hy
    obtain ⟨y2, y3, y4, y5, y6, y7, y8, e⟩ := m76k (ns := ns) (k := i) (by omega) (z2 := z2) (z3 := z3) (z4 := z4) (z5 := z5) (z6 := z6) (z7 := z7) (z8 := z8)
    rw [turn_nm (by rfl), Int.zero_add]
    exact ⟨_, e, some (.int (i : Int)), y2, y3, y4, y5, y6, y7, y8, rfl⟩) ⟨none, none, none, none, none, none, none, none, rfl⟩
  refine ⟨[.scr ns], ?_⟩
  simp [g76, den, i76, hN, hr, e1, outsOf]
end CWL
theorem PySem.Challenge.cw_climbways_k39_no_lands_to_turn_holds : PySem.Challenge.rw_climbways_k39_no_lands_to_turn.Holds := by
  w_on; o_law; k_head; (case hw => w_witness2)
  k_fill
  refine CW.walkE (l := PySem.Challenge.rw_climbways_k39_no_lands_to_turn) (k := 8) rfl rfl ⟨rfl, by decide, by decide⟩ (fun w h Y => PySem.W.kIn_of Y) ?F CWL.law_true
  case F =>
    intro w mg fa h KX G hmg
    refine' ⟨_, CWL.all_mk KX G hmg ?y0 ?y1 ?y2 ?y3 ?y4 ?y5 ?y6 ?y7 ?y8 ?xd0 ?xt0 ?xd1 ?xt1 ?xd2 ?xt2 ?xd3 ?xt3 ?xd4 ?xt4 ?xd5 ?xt5 ?xd6 ?xt6 ?xd7 ?xt7 ?xd8 ?xt8 ?xb0 ?xo1 ?xo2 ?xb1 ?xx1 ?xk1 ?xg1 ?xh1 ?xa1 ?xm1 ?xs1_0 ?xn1_0 ?xs1_2 ?xn1_2 ?xs1_3 ?xn1_3 ?xs1_4 ?xn1_4 ?xs1_5 ?xn1_5 ?xs1_6 ?xn1_6 ?xs1_7 ?xn1_7 ?xs1_8 ?xn1_8 ?xv1 ?xw1 ?xw2 ?xw3 ?xw4 ?xw5 ?xw6 ?xw7 ?xw8 ?a0 ?l0 ?c0_ ?k0 ?a1 ?l1 ?c1_ ?k1 ?a2 ?l2 ?c2_ ?k2 ?a3 ?l3 ?c3_ ?k3 ?a4 ?l4 ?c4_ ?k4 ?a5 ?l5 ?c5_ ?k5 ?a24 ?l24 ?c24_ ?k24 ?a37 ?l37 ?c37_ ?k37 ?a25 ?l25 ?c25_ ?k25 ?a26 ?l26 ?c26_ ?k26 ?a27 ?l27 ?c27_ ?k27 ?a28 ?l28 ?c28_ ?k28 ?a29 ?l29 ?c29_ ?k29 ?a30 ?l30 ?c30_ ?k30 ?a31 ?l31 ?c31_ ?k31 ?a32 ?l32 ?c32_ ?k32 ?a73 ?l73 ?c73_ ?k73 ?a74 ?l74 ?c74_ ?k74 ?a75 ?l75 ?c75_ ?k75 ?a76 ?l76 ?c76_ ?k76 ?z_ValueError ?z_abs ?z_bool ?z_enumerate ?z_int ?z_isinstance ?z_len ?z_list ?z_max ?z_min ?z_range ?z_repr ?z_sorted ?z_tuple ?z_zip ?n_FARTHEST ?n_MOST_MOVES ?n_MOST_WIDE⟩
    (case y0 => k_is)
    (case y1 => k_is)
    (case y2 => k_is)
    (case y3 => k_is)
    (case y4 => k_is)
    (case y5 => k_is)
    (case y6 => k_is)
    (case y7 => k_is)
    (case y8 => k_is)
    (case xd0 => k_is)
    (case xt0 => k_is)
    (case xd1 => k_is)
    (case xt1 => k_is)
    (case xd2 => k_is)
    (case xt2 => k_is)
    (case xd3 => k_is)
    (case xt3 => k_is)
    (case xd4 => k_is)
    (case xt4 => k_is)
    (case xd5 => k_is)
    (case xt5 => k_is)
    (case xd6 => k_is)
    (case xt6 => k_is)
    (case xd7 => k_is)
    (case xt7 => k_is)
    (case xd8 => k_is)
    (case xt8 => k_is)
    (case xb0 => k_is)
    (case xo1 => k_is)
    (case xo2 => k_is)
    (case xb1 => k_is)
    (case xx1 => k_exc)
    (case xk1 => k_is)
    (case xg1 => k_is)
    (case xh1 => k_is)
    (case xa1 => k_is)
    (case xm1 => k_is)
    (case xs1_0 => k_is)
    (case xn1_0 => decide)
    (case xs1_2 => k_is)
    (case xn1_2 => decide)
    (case xs1_3 => k_is)
    (case xn1_3 => decide)
    (case xs1_4 => k_is)
    (case xn1_4 => decide)
    (case xs1_5 => k_is)
    (case xn1_5 => decide)
    (case xs1_6 => k_is)
    (case xn1_6 => decide)
    (case xs1_7 => k_is)
    (case xn1_7 => decide)
    (case xs1_8 => k_is)
    (case xn1_8 => decide)
    (case xv1 => k_is)
    (case xw1 => k_is)
    (case xw2 => k_is)
    (case xw3 => k_is)
    (case xw4 => k_is)
    (case xw5 => k_is)
    (case xw6 => k_is)
    (case xw7 => k_is)
    (case xw8 => k_is)
    (case a0 => k_is)
    (case l0 => k_is)
    (case c0_ => k_is)
    (case k0 => k_is)
    (case a1 => k_is)
    (case l1 => k_is)
    (case c1_ => k_is)
    (case k1 => k_is)
    (case a2 => k_is)
    (case l2 => k_is)
    (case c2_ => k_is)
    (case k2 => k_is)
    (case a3 => k_is)
    (case l3 => k_is)
    (case c3_ => k_is)
    (case k3 => k_is)
    (case a4 => k_is)
    (case l4 => k_is)
    (case c4_ => k_is)
    (case k4 => k_is)
    (case a5 => k_is)
    (case l5 => k_is)
    (case c5_ => k_is)
    (case k5 => k_is)
    (case a24 => k_is)
    (case l24 => k_is)
    (case c24_ => k_is)
    (case k24 => k_is)
    (case a37 => k_is)
    (case l37 => k_is)
    (case c37_ => k_is)
    (case k37 => k_is)
    (case a25 => k_is)
    (case l25 => k_is)
    (case c25_ => k_is)
    (case k25 => k_is)
    (case a26 => k_is)
    (case l26 => k_is)
    (case c26_ => k_is)
    (case k26 => k_is)
    (case a27 => k_is)
    (case l27 => k_is)
    (case c27_ => k_is)
    (case k27 => k_is)
    (case a28 => k_is)
    (case l28 => k_is)
    (case c28_ => k_is)
    (case k28 => k_is)
    (case a29 => k_is)
    (case l29 => k_is)
    (case c29_ => k_is)
    (case k29 => k_is)
    (case a30 => k_is)
    (case l30 => k_is)
    (case c30_ => k_is)
    (case k30 => k_is)
    (case a31 => k_is)
    (case l31 => k_is)
    (case c31_ => k_is)
    (case k31 => k_is)
    (case a32 => k_is)
    (case l32 => k_is)
    (case c32_ => k_is)
    (case k32 => k_is)
    (case a73 => k_is)
    (case l73 => k_is)
    (case c73_ => k_is)
    (case k73 => k_is)
    (case a74 => k_is)
    (case l74 => k_is)
    (case c74_ => k_is)
    (case k74 => k_is)
    (case a75 => k_is)
    (case l75 => k_is)
    (case c75_ => k_is)
    (case k75 => k_is)
    (case a76 => k_is)
    (case l76 => k_is)
    (case c76_ => k_is)
    (case k76 => k_is)
    (case z_ValueError => k_is)
    (case z_abs => k_is)
    (case z_bool => k_is)
    (case z_enumerate => k_is)
    (case z_int => k_is)
    (case z_isinstance => k_is)
    (case z_len => k_is)
    (case z_list => k_is)
    (case z_max => k_is)
    (case z_min => k_is)
    (case z_range => k_is)
    (case z_repr => k_is)
    (case z_sorted => k_is)
    (case z_tuple => k_is)
    (case z_zip => k_is)
    (case n_FARTHEST => k_is)
    (case n_MOST_MOVES => k_is)
    (case n_MOST_WIDE => k_is)