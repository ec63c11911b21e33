import PyProof.Rows.All
import Wide.All
import OpenK.AllK
import Wide.FinOn
import HandS.ForMost
import HandS.IsInst
import HandS.Wide
import HandS.Walk
import HandS.Exc
import HandS.ExcOwn
import HandS.ExcInit
import HandS.ExcField
import HandS.TryOnly
import HandS.TryMany
import HandS.WordsExc
import HandS.ExcIs
import PyProof.FactsAll.dict
import HandS.TupAny
import KE.LtData
import HandS.ClsMeth
import HandS.ExcValue
import KE.KExcIs
import HandS.Defaults
import HandS.Deep
import HandS.StrMore
import HandS.Rev
import HandS.Zip
import HandS.Set
import HandS.SetFor
import HandS.Strs
import PySem.Challenge.RW_rulestable_k07_texts_there_and_back
set_option Elab.async false
set_option linter.all false
set_option maxRecDepth 100000
set_option maxHeartbeats 4000000
namespace G
open PySem L2

/-! ### heaps that grow -/
def Ex (H H' : Hp) : Prop := ∀ a o, H a = some o → H' a = some o
theorem Ex.refl (H : Hp) : Ex H H := fun _ _ h => h
theorem Ex.trans {H H1 H2 : Hp} (a : Ex H H1) (b : Ex H1 H2) : Ex H H2 := fun x o h => b x o (a x o h)
theorem Ex.new {H : Hp} {p : Addr} {o : HO} (h : H p = none) : Ex H (upd H p o) := fun a u e => by
  rw [upd_ne (ne_of_none e h)]
  exact e
theorem Ex.free {H H' : Hp} {p : Addr} (e : Ex H H') (h : H' p = none) : H p = none := by
  cases h1 : H p with
  | none => rfl
  | some o => rw [e p o h1] at h; cases h
theorem ex_rd {H H' : Hp} {a : Addr} {u : HO} (e : Ex H H') (h : Rd H a u) : Rd H' a u := by
  rcases h with h | ⟨o, h⟩
  · exact Or.inl (e a _ h)
  · exact Or.inr ⟨o, e a _ h⟩
theorem ex_l {K : PySem.W.Frag} {H H' : Hp} {a : Addr} {xs : List V} (e : Ex H H') (h : SqL K H a xs) : SqL K H' a xs := by
  rcases h with h | h
  · exact Or.inl (ex_rd e h)
  · exact Or.inr h
theorem ex_t {K : PySem.W.Frag} {H H' : Hp} {a : Addr} {xs : List V} (e : Ex H H') (h : SqT K H a xs) : SqT K H' a xs := by
  rcases h with h | h
  · exact Or.inl (ex_rd e h)
  · exact Or.inr h

/-- I: the part of the heap H that never changes. From (I, H) to (I', H'): nothing but the objects at m has changed -/
structure Gr (m : List Addr) (I H I' H' : Hp) : Prop where
  i : Ex I I'
  ih : Ex I' H'
  h : ∀ a o, a ∉ m → H a = some o → H' a = some o
  th : ∀ a, H a ≠ none → H' a ≠ none
  fr : ∀ a, H a ≠ none → I' a = I a
theorem Gr.refl {m : List Addr} {I H : Hp} (e : Ex I H) : Gr m I H I H := ⟨Ex.refl I, e, fun _ _ _ h => h, fun _ h => h, fun _ _ => rfl⟩
theorem Gr.trans {m : List Addr} {I H I1 H1 I2 H2 : Hp} (a : Gr m I H I1 H1) (b : Gr m I1 H1 I2 H2) : Gr m I H I2 H2 :=
  ⟨a.i.trans b.i, b.ih, fun x o hx h => b.h x o hx (a.h x o hx h), fun x h => b.th x (a.th x h), fun x h => (b.fr x (a.th x h)).trans (a.fr x h)⟩
theorem Gr.weak {m : List Addr} {I H I1 H1 : Hp} (a : Gr [] I H I1 H1) : Gr m I H I1 H1 := ⟨a.i, a.ih, fun x o _ h => a.h x o (by simp) h, a.th, a.fr⟩
theorem Gr.ex {I H I1 H1 : Hp} (a : Gr [] I H I1 H1) : Ex H H1 := fun x o h => a.h x o (by simp) h
theorem Gr.new {m : List Addr} {I H : Hp} {p : Addr} {o : HO} (e : Ex I H) (h : H p = none) : Gr m I H (upd I p o) (upd H p o) where
  i := Ex.new (e.free h)
  ih := fun a u q => by
    by_cases z : a = p
    · subst z; rw [upd_same] at q ⊢; exact q
    · rw [upd_ne z] at q ⊢; exact e a u q
  h := fun a u _ q => Ex.new h a u q
  th := fun a q => by
    cases e1 : H a with
    | none => exact absurd e1 q
    | some u => rw [Ex.new h a u e1]; exact nofun
  fr := fun a q => by
    have z : a ≠ p := fun z => q (z ▸ h)
    rw [upd_ne z]
/-- a new object that is not among what stays -/
theorem Gr.junk {m : List Addr} {I H : Hp} {p : Addr} {o : HO} (e : Ex I H) (h : H p = none) : Gr m I H I (upd H p o) where
  i := Ex.refl I
  ih := e.trans (Ex.new h)
  h := fun a u _ q => Ex.new h a u q
  th := fun a q => by
    cases e1 : H a with
    | none => exact absurd e1 q
    | some u => rw [Ex.new h a u e1]; exact nofun
  fr := fun _ _ => rfl
theorem Gr.none_i {m : List Addr} {I H I1 H1 : Hp} (g : Gr m I H I1 H1) {a : Addr} (hi : I a = none) (hh : H a ≠ none) : I1 a = none := (g.fr a hh).trans hi

/-- at a: an exception that was caught, of the class cls, its dict at d -/
def exx (a : Addr) (cls : Value) (d : Option Addr) : HO := .ext fun h => ∃ (oe : Obj) (vs : Array Value), h.get? a = some oe ∧ Zc cls d oe ∧ oe.data = .fields vs
theorem exx_ok {P : Program} {w : World} {H : Hp} {h : Heap} {a : Addr} {cls : Value} {d : Option Addr} {oe : Obj} {vs : Array Value} (e : h.get? a = some oe) (z : Zc cls d oe) (q : oe.data = .fields vs) : ObjOk P w H h a (exx a cls d) :=
  ⟨⟨oe, vs, e, z, q⟩, ⟨oe, e⟩, fun _ _ ⟨o, v, q, r⟩ k => ⟨o, v, k o q, r⟩⟩
/-- an exception stands at a, made or caught -/
def ExnAt (I : Hp) (a C dx : Addr) : Prop := I a = some (exo a C (some dx)) ∨ I a = some (exx a (.ref C) (some dx))
/-- its dict -/
def ExdAt (I : Hp) (dx : Addr) (fs : List (Str × V)) : Prop := I dx = some (exd dx fs) ∨ I dx = some (.xd fs)
theorem ExnAt.mono {I I' : Hp} {a C dx : Addr} (e : Ex I I') : ExnAt I a C dx → ExnAt I' a C dx := fun h => h.imp (e _ _) (e _ _)
theorem ExdAt.mono {I I' : Hp} {dx : Addr} {fs : List (Str × V)} (e : Ex I I') : ExdAt I dx fs → ExdAt I' dx fs := fun h => h.imp (e _ _) (e _ _)
/-! ### data -/
inductive D where
  | non | bl (b : Bool) | int (i : Int) | str (s : Str) | lst (ds : List D) | tup (ds : List D)
  | dic (ks : List Key) (ds : List D) | obj (C : Addr) (ns : List Str) (ds : List D)
  | fl (ds : List D) | ty (n : String) | ref (a : Addr) | exn (C : Addr) (ns : List Str) (ds : List D)
mutual
inductive Rp (K : PySem.W.Frag) (I : Hp) : V → D → Prop
  | non : Rp K I .non .non
  | bl (b : Bool) : Rp K I (.bl b) (.bl b)
  | int (i : Int) : Rp K I (.int i) (.int i)
  | str (x : Str) : Rp K I (.str x) (.str x)
  | lst {a : Addr} {xs : List V} {ds : List D} : I a = some (.lst xs) → Rps K I xs ds → Rp K I (.ref a) (.lst ds)
  | fl {a : Addr} {xs : List V} {ds : List D} : SqL K I a xs → Rps K I xs ds → Rp K I (.ref a) (.fl ds)
  | ty (n : String) : Rp K I (.ty n) (.ty n)
  | ref (a : Addr) : Rp K I (.ref a) (.ref a)
  | tup {a : Addr} {xs : List V} {ds : List D} : SqT K I a xs → Rps K I xs ds → Rp K I (.ref a) (.tup ds)
  | dic {a : Addr} {ks : List Key} {xs : List V} {ds : List D} : I a = some (.dK (ks.zip xs)) → ks.length = xs.length → Rps K I xs ds → Rp K I (.ref a) (.dic ks ds)
  | obj {a C dx : Addr} {ns : List Str} {xs : List V} {ds : List D} : I a = some (.ins C dx (ns.zip xs)) → ns.length = xs.length → Rps K I xs ds → Rp K I (.ref a) (.obj C ns ds)
  | exn {a C dx : Addr} {ns : List Str} {xs : List V} {ds : List D} : ExnAt I a C dx → ExdAt I dx (ns.zip xs) → ns.length = xs.length → Rps K I xs ds → Rp K I (.ref a) (.exn C ns ds)
inductive Rps (K : PySem.W.Frag) (I : Hp) : List V → List D → Prop
  | nil : Rps K I [] []
  | cons {v : V} {vs : List V} {d : D} {ds : List D} : Rp K I v d → Rps K I vs ds → Rps K I (v :: vs) (d :: ds)
end
section
variable {K : PySem.W.Frag} {I I' : Hp}
mutual
theorem Rp.mono (e : Ex I I') : ∀ {v : V} {d : D}, Rp K I v d → Rp K I' v d
  | _, _, .non => .non
  | _, _, .bl b => .bl b
  | _, _, .int i => .int i
  | _, _, .str x => .str x
  | _, _, .lst h r => .lst (e _ _ h) (Rps.mono e r)
  | _, _, .fl h r => .fl (ex_l e h) (Rps.mono e r)
  | _, _, .ty n => .ty n
  | _, _, .ref a => .ref a
  | _, _, .tup h r => .tup (ex_t e h) (Rps.mono e r)
  | _, _, .dic h l r => .dic (e _ _ h) l (Rps.mono e r)
  | _, _, .obj h l r => .obj (e _ _ h) l (Rps.mono e r)
  | _, _, .exn h g l r => .exn (h.mono e) (g.mono e) l (Rps.mono e r)
theorem Rps.mono (e : Ex I I') : ∀ {vs : List V} {ds : List D}, Rps K I vs ds → Rps K I' vs ds
  | _, _, .nil => .nil
  | _, _, .cons h r => .cons (Rp.mono e h) (Rps.mono e r)
end
theorem Rps.length : ∀ {vs : List V} {ds : List D}, Rps K I vs ds → vs.length = ds.length
  | _, _, .nil => rfl
  | _, _, .cons _ r => congrArg (· + 1) (Rps.length r)
theorem Rps.append : ∀ {vs ws : List V} {ds es : List D}, Rps K I vs ds → Rps K I ws es → Rps K I (vs ++ ws) (ds ++ es)
  | _, _, _, _, .nil, s => s
  | _, _, _, _, .cons h r, s => .cons h (Rps.append r s)
theorem Rps.get : ∀ {vs : List V} {ds : List D} {i : Nat} {d : D}, Rps K I vs ds → ds[i]? = some d → ∃ v, vs[i]? = some v ∧ Rp K I v d
  | _, _, _, _, .nil, e => by simp at e
  | _, _, 0, _, .cons h _, e => by simp at e; subst e; exact ⟨_, rfl, h⟩
  | _, _, i + 1, _, .cons _ r, e => by
    obtain ⟨v, h1, h2⟩ := Rps.get (i := i) r (by simpa using e)
    exact ⟨v, by simpa using h1, h2⟩
theorem Rps.getV : ∀ {vs : List V} {ds : List D} {i : Nat} {v : V}, Rps K I vs ds → vs[i]? = some v → ∃ d, ds[i]? = some d ∧ Rp K I v d
  | _, _, _, _, .nil, e => by simp at e
  | _, _, 0, _, .cons h _, e => by simp at e; subst e; exact ⟨_, rfl, h⟩
  | _, _, i + 1, _, .cons _ r, e => by
    obtain ⟨v, h1, h2⟩ := Rps.getV (i := i) r (by simpa using e)
    exact ⟨v, by simpa using h1, h2⟩
theorem Rps.take : ∀ {vs : List V} {ds : List D} (n : Nat), Rps K I vs ds → Rps K I (vs.take n) (ds.take n)
  | _, _, 0, _ => .nil
  | _, _, _ + 1, .nil => .nil
  | _, _, n + 1, .cons h r => .cons h (Rps.take n r)
theorem Rps.drop : ∀ {vs : List V} {ds : List D} (n : Nat), Rps K I vs ds → Rps K I (vs.drop n) (ds.drop n)
  | _, _, 0, r => r
  | _, _, _ + 1, .nil => .nil
  | _, _, n + 1, .cons _ r => Rps.drop n r
theorem Rps.set {v : V} {d : D} (h : Rp K I v d) : ∀ {vs : List V} {ds : List D} (n : Nat), Rps K I vs ds → Rps K I (vs.set n v) (ds.set n d)
  | _, _, _, .nil => .nil
  | _, _, 0, .cons _ r => .cons h r
  | _, _, n + 1, .cons q r => .cons q (Rps.set h n r)
theorem Rps.one {v : V} {d : D} (h : Rp K I v d) : Rps K I [v] [d] := .cons h .nil
/-- flat data: what it is does not lean on the heap -/
def flat : D → Bool
  | .non => true
  | .bl _ => true
  | .int _ => true
  | .str _ => true
  | .ty _ => true
  | .ref _ => true
  | _ => false
theorem Rp.flat {v : V} {d : D} (h : Rp K I v d) (f : flat d = true) : Rp K I' v d := by
  cases h <;> first | exact .non | exact .bl _ | exact .int _ | exact .str _ | exact .ty _ | exact .ref _ | (cases f)
/-- a list's items -/
inductive LD : D → List D → Prop
  | lst {ds : List D} : LD (.lst ds) ds
  | fl {ds : List D} : LD (.fl ds) ds
theorem Rp.l {v : V} {d : D} {ds : List D} (r : Rp K I v d) (h : LD d ds) : ∃ a vs, v = .ref a ∧ SqL K I a vs ∧ Rps K I vs ds := by
  cases h with
  | lst => cases r with | lst a b => exact ⟨_, _, rfl, .inl (.inl a), b⟩
  | fl => cases r with | fl a b => exact ⟨_, _, rfl, a, b⟩
theorem rps_ints : ∀ {vs : List V} {ns : List Int}, Rps K I vs (ns.map D.int) → vs = ns.map V.int
  | _, [], .nil => rfl
  | _, n :: ns, .cons (.int _) r => congrArg (V.int n :: ·) (rps_ints r)
theorem rps_of_ints : ∀ {ns : List Int}, Rps K I (ns.map V.int) (ns.map D.int)
  | [] => .nil
  | n :: ns => .cons (.int n) rps_of_ints
theorem rps_strs : ∀ {vs : List V} {ns : List Str}, Rps K I vs (ns.map D.str) → vs = ns.map V.str
  | _, [], .nil => rfl
  | _, n :: ns, .cons (.str _) r => congrArg (V.str n :: ·) (rps_strs r)
theorem rps_bls : ∀ {vs : List V} {ns : List Bool}, Rps K I vs (ns.map D.bl) → vs = ns.map V.bl
  | _, [], .nil => rfl
  | _, n :: ns, .cons (.bl _) r => congrArg (V.bl n :: ·) (rps_bls r)
end

/-! ### the slots: nothing known, an immutable value, an object of the def's own that may change -/
inductive SV where
  | im (d : D) | mu (d : D)
abbrev Sl := List (Option SV)
inductive MRp (K : PySem.W.Frag) (I : Hp) : HO → D → Prop
  | lst {vs : List V} {ds : List D} (h : Rps K I vs ds) : MRp K I (.lst vs) (.lst ds)
  | dic {ks : List Key} {vs : List V} {ds : List D} (l : ks.length = vs.length) (h : Rps K I vs ds) : MRp K I (.dK (ks.zip vs)) (.dic ks ds)
  | ins {C dx : Addr} {ns : List Str} {vs : List V} {ds : List D} (l : ns.length = vs.length) (h : Rps K I vs ds) : MRp K I (.ins C dx (ns.zip vs)) (.obj C ns ds)
theorem MRp.mono {K : PySem.W.Frag} {I I' : Hp} (e : Ex I I') {o : HO} {d : D} (h : MRp K I o d) : MRp K I' o d := by
  cases h with
  | lst h => exact .lst (h.mono e)
  | dic l h => exact .dic l (h.mono e)
  | ins l h => exact .ins l (h.mono e)
/-- what the slots hold -/
def SlOk (K : PySem.W.Frag) (I : Hp) (σ : St) (H : Hp) (as : Nat → Addr) (i : Nat) : SV → Prop
  | .im d => ∃ v, σ[i]? = some (some v) ∧ Rp K I v d
  | .mu d => σ[i]? = some (some (.ref (as i))) ∧ I (as i) = none ∧ ∃ o, H (as i) = some o ∧ MRp K I o d
structure Lo (K : PySem.W.Frag) (I : Hp) (σ : St) (H : Hp) (as : Nat → Addr) (Γ : Sl) : Prop where
  at_ : ∀ i s, Γ[i]? = some (some s) → SlOk K I σ H as i s
  ne : ∀ i j d e, Γ[i]? = some (some (.mu d)) → Γ[j]? = some (some (.mu e)) → i ≠ j → as i ≠ as j
  len : σ.length = Γ.length
section
variable {K : PySem.W.Frag} {I I' H H' : Hp} {σ : St} {as : Nat → Addr} {Γ : Sl}
theorem SlOk.mono (g : Gr [] I H I' H') {i : Nat} : ∀ {s : SV}, SlOk K I σ H as i s → SlOk K I' σ H' as i s
  | .im _, ⟨v, h, r⟩ => ⟨v, h, r.mono g.i⟩
  | .mu _, ⟨h, n, o, ho, r⟩ => ⟨h, g.none_i n (by rw [ho]; exact nofun), o, g.ex _ _ ho, r.mono g.i⟩
theorem Lo.mono (g : Gr [] I H I' H') (l : Lo K I σ H as Γ) : Lo K I' σ H' as Γ := ⟨fun i s h => (l.at_ i s h).mono g, l.ne, l.len⟩
end

/-! ### judgements over readings -/
section
variable (K : PySem.W.Frag)
/-- te gives (a value of) d -/
def E (Γ : Sl) (te : TE) (d : D) : Prop := ∀ (I : Hp) (σ : St) (H : Hp) (as : Nat → Addr), Ex I H → Lo K I σ H as Γ → ∀ Q : VK, (∀ I' H' v, Gr [] I H I' H' → Rp K I' v d → Q v H') → te σ H Q
/-- te gives a list of ds; the list itself may be one that changes -/
def C (Γ : Sl) (te : TE) (ds : List D) : Prop := ∀ (I : Hp) (σ : St) (H : Hp) (as : Nat → Addr), Ex I H → Lo K I σ H as Γ → ∀ Q : VK, (∀ I' H' a vs, Gr [] I H I' H' → SqL K H' a vs → Rps K I' vs ds → Q (.ref a) H') → te σ H Q
def EA (Γ : Sl) (ta : TA) (ds : List D) : Prop := ∀ (I : Hp) (σ : St) (H : Hp) (as : Nat → Addr), Ex I H → Lo K I σ H as Γ → ∀ Q : List V → Hp → Prop, (∀ I' H' vs, Gr [] I H I' H' → Rps K I' vs ds → Q vs H') → ta σ H Q
def T (Γ : Sl) (tt : TT) (b : Bool) : Prop := ∀ (I : Hp) (σ : St) (H : Hp) (as : Nat → Addr), Ex I H → Lo K I σ H as Γ → ∀ Q : Bool → Hp → Prop, (∀ I' H', Gr [] I H I' H' → Q b H') → tt σ H Q
def EO (Γ : Sl) (to : TO) (o : Option Int) : Prop := ∀ (I : Hp) (σ : St) (H : Hp) (as : Nat → Addr), Ex I H → Lo K I σ H as Γ → ∀ Q : Option Int → Hp → Prop, (∀ I' H', Gr [] I H I' H' → Q o H') → to σ H Q
/-- an operation on values -/
def Bin (r : R2) (x y d : D) : Prop := ∀ (I H : Hp) (u v : V), Ex I H → Rp K I u x → Rp K I v y → ∀ Q : VK, (∀ I' H' v, Gr [] I H I' H' → Rp K I' v d → Q v H') → r u v H Q
def Un1 (r : V → Hp → VK → Prop) (x d : D) : Prop := ∀ (I H : Hp) (u : V), Ex I H → Rp K I u x → ∀ Q : VK, (∀ I' H' v, Gr [] I H I' H' → Rp K I' v d → Q v H') → r u H Q
def Ca (r : List V → Hp → VK → Prop) (xs : List D) (d : D) : Prop := ∀ (I H : Hp) (us : List V), Ex I H → Rps K I us xs → ∀ Q : VK, (∀ I' H' v, Gr [] I H I' H' → Rp K I' v d → Q v H') → r us H Q
end
section
variable {K : PySem.W.Frag} {Γ : Sl} {te ta tb : TE} {d x y : D} {ds : List D}
theorem E.c (h : E K Γ te d) (hl : LD d ds) : C K Γ te ds := fun I σ H as e l Q q => h I σ H as e l Q fun I' H' v g r => by
  obtain ⟨a, vs, rfl, hs, hr⟩ := r.l hl
  exact q I' H' _ _ g (ex_l g.ih hs) hr
theorem e_var {i : Nat} (h : Γ[i]? = some (some (.im d))) : E K Γ (tVar i) d := fun I σ H as e l Q q => by
  obtain ⟨v, hv, r⟩ := l.at_ i _ h
  exact ⟨v, hv, q I H v (Gr.refl e) r⟩
theorem c_var {i : Nat} (h : Γ[i]? = some (some (.mu (.lst ds)))) : C K Γ (tVar i) ds := fun I σ H as e l Q q => by
  obtain ⟨hv, hn, o, ho, r⟩ := l.at_ i _ h
  cases r with
  | lst r => exact ⟨_, hv, q I H _ _ (Gr.refl e) (.inl (.inl ho)) r⟩
theorem e_int {i : Int} : E K Γ (tC (.int i)) (.int i) := fun I σ H as e _ Q q => q I H _ (Gr.refl e) (.int i)
theorem e_str {i : Str} : E K Γ (tC (.str i)) (.str i) := fun I σ H as e _ Q q => q I H _ (Gr.refl e) (.str i)
theorem e_bl {i : Bool} : E K Γ (tC (.bl i)) (.bl i) := fun I σ H as e _ Q q => q I H _ (Gr.refl e) (.bl i)
theorem e_non : E K Γ (tC .non) .non := fun I σ H as e _ Q q => q I H _ (Gr.refl e) .non
theorem e_op {r : R2} (ha : E K Γ ta x) (hb : E K Γ tb y) (hr : Bin K r x y d) : E K Γ (tOp r ta tb) d := fun I σ H as e l Q q =>
  ha I σ H as e l _ fun I1 H1 v g1 r1 => hb I1 σ H1 as g1.ih (l.mono g1) _ fun I2 H2 w g2 r2 => hr I2 H2 v w g2.ih (r1.mono g2.i) r2 Q fun I3 H3 z g3 r3 => q I3 H3 z ((g1.trans g2).trans g3) r3
theorem e_un {r : V → Hp → VK → Prop} (ha : E K Γ ta x) (hr : Un1 K r x d) : E K Γ (tUn r ta) d := fun I σ H as e l Q q =>
  ha I σ H as e l _ fun I1 H1 v g1 r1 => hr I1 H1 v g1.ih r1 Q fun I3 H3 z g3 r3 => q I3 H3 z (g1.trans g3) r3
theorem ea_nil : EA K Γ tNil [] := fun I σ H as e _ Q q => q I H _ (Gr.refl e) .nil
theorem ea_cons {tr : TA} (ha : E K Γ ta x) (hr : EA K Γ tr ds) : EA K Γ (tCons ta tr) (x :: ds) := fun I σ H as e l Q q =>
  ha I σ H as e l _ fun I1 H1 v g1 r1 => hr I1 σ H1 as g1.ih (l.mono g1) _ fun I2 H2 vs g2 r2 => q I2 H2 _ (g1.trans g2) (.cons (r1.mono g2.i) r2)
theorem e_cb {r : List V → Hp → VK → Prop} {ta : TA} (ha : EA K Γ ta ds) (hr : Ca K r ds d) : E K Γ (tCB r ta) d := fun I σ H as e l Q q =>
  ha I σ H as e l _ fun I1 H1 v g1 r1 => hr I1 H1 v g1.ih r1 Q fun I3 H3 z g3 r3 => q I3 H3 z (g1.trans g3) r3
theorem e_tup {ta : TA} (ha : EA K Γ ta ds) (hl : ds.length ≤ sizeLine) : E K Γ (tTup ta) (.tup ds) := fun I σ H as e l Q q =>
  ha I σ H as e l _ fun I1 H1 vs g1 r1 => ⟨by rw [r1.length]; exact hl, fun p hp => q _ _ _ (g1.trans (Gr.new g1.ih hp)) (.tup (.inl (.inl upd_same)) (r1.mono (Ex.new (g1.ih.free hp))))⟩
theorem e_lst {ta : TA} (ha : EA K Γ ta ds) (hl : ds.length ≤ sizeLine) : E K Γ (tLst ta) (.lst ds) := fun I σ H as e l Q q =>
  ha I σ H as e l _ fun I1 H1 vs g1 r1 => ⟨by rw [r1.length]; exact hl, fun p hp => q _ _ _ (g1.trans (Gr.new g1.ih hp)) (.lst upd_same (r1.mono (Ex.new (g1.ih.free hp))))⟩
theorem e_if {t : TT} {b : Bool} (h : T K Γ t b) (h1 : b = true → E K Γ ta d) (h2 : b = false → E K Γ tb d) : E K Γ (tIf t ta tb) d := fun I σ H as e l Q q =>
  h I σ H as e l _ fun I1 H1 g1 => by
    cases b with
    | true => exact h1 rfl I1 σ H1 as g1.ih (l.mono g1) Q fun I2 H2 v g2 r2 => q I2 H2 v (g1.trans g2) r2
    | false => exact h2 rfl I1 σ H1 as g1.ih (l.mono g1) Q fun I2 H2 v g2 r2 => q I2 H2 v (g1.trans g2) r2
/-! ### tests -/
theorem t_test {b : Bool} (h : E K Γ te (.bl b)) : T K Γ (tTest te) b := fun I σ H as e l Q q => h I σ H as e l _ fun I1 H1 v g1 r1 => by
  cases r1
  exact ⟨b, rfl, q I1 H1 g1⟩
theorem t_b {b : Bool} (h : E K Γ te (.bl b)) : T K Γ (tB te) b := fun I σ H as e l Q q => h I σ H as e l _ fun I1 H1 v g1 r1 => by
  cases r1
  exact ⟨b, rfl, q I1 H1 g1⟩
theorem t_not {t : TT} {b : Bool} (h : T K Γ t b) : T K Γ (tNot t) (!b) := fun I σ H as e l Q q => h I σ H as e l _ fun I1 H1 g1 => q I1 H1 g1
theorem t_and {t u : TT} {a b : Bool} (h1 : T K Γ t a) (h2 : a = true → T K Γ u b) : T K Γ (tAnd t u) (a && b) := fun I σ H as e l Q q => h1 I σ H as e l _ fun I1 H1 g1 => by
  cases a with
  | true => exact h2 rfl I1 σ H1 as g1.ih (l.mono g1) Q fun I2 H2 g2 => q I2 H2 (g1.trans g2)
  | false => exact q I1 H1 g1
theorem t_or {t u : TT} {a b : Bool} (h1 : T K Γ t a) (h2 : a = false → T K Γ u b) : T K Γ (tOr t u) (a || b) := fun I σ H as e l Q q => h1 I σ H as e l _ fun I1 H1 g1 => by
  cases a with
  | true => exact q I1 H1 g1
  | false => exact h2 rfl I1 σ H1 as g1.ih (l.mono g1) Q fun I2 H2 g2 => q I2 H2 (g1.trans g2)
theorem t_yes : T K Γ tYes true := fun I σ H as e l Q q => q I H (Gr.refl e)
theorem e_andV {a b : Bool} (h1 : E K Γ ta (.bl a)) (h2 : a = true → E K Γ tb (.bl b)) : E K Γ (tAndV ta tb) (.bl (a && b)) := fun I σ H as e l Q q => h1 I σ H as e l _ fun I1 H1 v g1 r1 => by
  cases r1
  refine ⟨a, rfl, ?_⟩
  cases a with
  | true => exact h2 rfl I1 σ H1 as g1.ih (l.mono g1) Q fun I2 H2 w g2 r2 => q I2 H2 w (g1.trans g2) r2
  | false => exact q I1 H1 _ g1 (.bl false)
theorem e_orV {a b : Bool} (h1 : E K Γ ta (.bl a)) (h2 : a = false → E K Γ tb (.bl b)) : E K Γ (tOrV ta tb) (.bl (a || b)) := fun I σ H as e l Q q => h1 I σ H as e l _ fun I1 H1 v g1 r1 => by
  cases r1
  refine ⟨a, rfl, ?_⟩
  cases a with
  | true => exact q I1 H1 _ g1 (.bl true)
  | false => exact h2 rfl I1 σ H1 as g1.ih (l.mono g1) Q fun I2 H2 w g2 r2 => q I2 H2 w (g1.trans g2) r2
theorem e_notV {a : Bool} (h1 : E K Γ ta (.bl a)) : E K Γ (tNotV ta) (.bl (!a)) := fun I σ H as e l Q q => h1 I σ H as e l _ fun I1 H1 v g1 r1 => by
  cases r1
  exact ⟨a, rfl, q I1 H1 _ g1 (.bl _)⟩
theorem e_is (h : E K Γ te x) (e : x = y) : E K Γ te y := e ▸ h
theorem t_is {t : TT} {a b : Bool} (h : T K Γ t a) (e : a = b) : T K Γ t b := e ▸ h
end

/-! ### statements -/
structure Cz where
  K : PySem.W.Frag
  I : Hp
  H : Hp
  m : List (Nat × Addr)
  W : WX
/-- where a body stands: I, H now; c.I, c.H at its entry -/
structure At (c : Cz) (I : Hp) (σ : St) (H : Hp) (as : Nat → Addr) (Γ : Sl) : Prop where
  gr : Gr (c.m.map (·.2)) c.I c.H I H
  lo : Lo c.K I σ H as Γ
  ok : ∀ i d, Γ[i]? = some (some (.mu d)) → c.H (as i) = none ∨ (i, as i) ∈ c.m
  fix : ∀ p ∈ c.m, as p.1 = p.2
structure Ks where
  nx : Sl → Prop
  rt : D → Sl → Prop
  bk : Sl → Prop := fun _ => False
  ct : Sl → Prop := fun _ => False
  /-- what may be raised: the slots, the class, the fields' names and data -/
  ex : Sl → Addr → List Str → List D → Prop := fun _ _ _ _ => False
/-- an exception's dict: new, of these fields -/
structure XdAt (K : PySem.W.Frag) (I H H0 : Hp) (dx : Addr) (ns : List Str) (ds : List D) : Prop where
  at_ : ∃ vs, H dx = some (.xd (ns.zip vs)) ∧ ns.length = vs.length ∧ Rps K I vs ds
  ni : I dx = none
  n0 : H0 dx = none
structure EndsOk (c : Cz) (lb : Hp) (κ : Ks) (De : Ends) : Prop where
  nx : ∀ I σ H as Γ, κ.nx Γ → Ex lb I → At c I σ H as Γ → De.nx σ H
  rt : ∀ I H Γ v d, κ.rt d Γ → Ex lb I → Gr (c.m.map (·.2)) c.I c.H I H → Rp c.K I v d → (∀ p ∈ c.m, ∀ e, Γ[p.1]? = some (some (.mu e)) → ∃ o, H p.2 = some o ∧ MRp c.K I o e) → De.rt v H
  bk : ∀ I σ H as Γ, κ.bk Γ → Ex lb I → At c I σ H as Γ → De.bk σ H
  ct : ∀ I σ H as Γ, κ.ct Γ → Ex lb I → At c I σ H as Γ → De.ct σ H
  ex : ∀ I σ H as Γ C ns ds dx, κ.ex Γ C ns ds → Ex lb I → At c I σ H as Γ → XdAt c.K I H c.H dx ns ds → c.W (.ref C) (some dx) σ H
def B (c : Cz) (Γ : Sl) (ts : TS) (κ : Ks) : Prop := ∀ (lb I : Hp) (σ : St) (H : Hp) (as : Nat → Addr) (De : Ends), Ex lb I → At c I σ H as Γ → EndsOk c lb κ De → ts De σ H
/-- Γ' says less than Γ -/
inductive Le : Sl → Sl → Prop
  | nil : Le [] []
  | none {a : Option SV} {r s : Sl} : Le r s → Le (none :: r) (a :: s)
  | same {a : Option SV} {r s : Sl} : Le r s → Le (a :: r) (a :: s)
theorem Le.refl : ∀ Γ : Sl, Le Γ Γ
  | [] => .nil
  | _ :: r => .same (Le.refl r)
theorem Le.get : ∀ {Γ' Γ : Sl}, Le Γ' Γ → ∀ {i : Nat} {s : SV}, Γ'[i]? = some (some s) → Γ[i]? = some (some s)
  | _, _, .nil, _, _, h => h
  | _, _, .none _, 0, _, h => by simp at h
  | _, _, .none l, i + 1, _, h => by simpa using Le.get l (by simpa using h)
  | _, _, .same _, 0, _, h => h
  | _, _, .same l, i + 1, _, h => by simpa using Le.get l (by simpa using h)
theorem Le.length : ∀ {Γ' Γ : Sl}, Le Γ' Γ → Γ'.length = Γ.length
  | _, _, .nil => rfl
  | _, _, .none l => congrArg (· + 1) l.length
  | _, _, .same l => congrArg (· + 1) l.length
theorem set_get {Γ : Sl} {i j : Nat} {a : Option SV} {s : SV} (h : (Γ.set i a)[j]? = some (some s)) : (j = i ∧ a = some s) ∨ (j ≠ i ∧ Γ[j]? = some (some s)) := by
  by_cases e : j = i
  · subst e
    rw [List.getElem?_set_self'] at h
    left
    cases g : Γ[j]? with
    | none => rw [g] at h; simp at h
    | some b => rw [g] at h; simp at h; exact ⟨rfl, h⟩
  · rw [List.getElem?_set_ne (Ne.symm e)] at h
    exact .inr ⟨e, h⟩
section
variable {K : PySem.W.Frag} {I I' H H' : Hp} {σ : St} {as : Nat → Addr} {Γ Γ' : Sl}
theorem Lo.weak (l : Le Γ' Γ) (h : Lo K I σ H as Γ) : Lo K I σ H as Γ' := ⟨fun i s e => h.at_ i s (l.get e), fun i j d e a b => h.ne i j d e (l.get a) (l.get b), h.len.trans l.length.symm⟩
theorem Lo.lt (h : Lo K I σ H as Γ) {i : Nat} {s : Option SV} {σ' : St} (e : (Γ.set i (some a))[i]? = some s) : i < σ.length := by
  have := (List.getElem?_eq_some_iff.mp e).1
  rw [List.length_set] at this
  rw [h.len]; exact this
theorem Lo.set (h : Lo K I σ H as Γ) {i : Nat} {v : V} {d : D} (r : Rp K I v d) : Lo K I (σ.set i (some v)) H as (Γ.set i (some (.im d))) := by
  refine ⟨fun j s e => ?_, fun j k d e a b => ?_, by simp [h.len]⟩
  · have hj := (List.getElem?_eq_some_iff.mp e).1
    rw [List.length_set, ← h.len] at hj
    rcases set_get e with ⟨rfl, e'⟩ | ⟨ne, e'⟩
    · cases e'
      exact ⟨v, by rw [List.getElem?_set_self hj], r⟩
    · have q := h.at_ j s e'
      cases s with
      | im d => obtain ⟨w, e1, r1⟩ := q; exact ⟨w, by rw [List.getElem?_set_ne (Ne.symm ne)]; exact e1, r1⟩
      | mu d => obtain ⟨e1, r1⟩ := q; exact ⟨by rw [List.getElem?_set_ne (Ne.symm ne)]; exact e1, r1⟩
  · rcases set_get a with ⟨_, e'⟩ | ⟨_, a'⟩
    · cases e'
    · rcases set_get b with ⟨_, e'⟩ | ⟨_, b'⟩
      · cases e'
      · exact h.ne j k d e a' b'
def updA (as : Nat → Addr) (i : Nat) (p : Addr) : Nat → Addr := fun j => if j = i then p else as j
theorem updA_same {as : Nat → Addr} {i : Nat} {p : Addr} : updA as i p i = p := if_pos rfl
theorem updA_ne {as : Nat → Addr} {i j : Nat} {p : Addr} (h : j ≠ i) : updA as i p j = as j := if_neg h
/-- slot i holds a new object -/
theorem Lo.setNew (h : Lo K I σ H as Γ) {i : Nat} {p : Addr} {o : HO} {d : D} (e : Ex I H) (hp : H p = none) (r : MRp K I o d) : Lo K I (σ.set i (some (.ref p))) (upd H p o) (updA as i p) (Γ.set i (some (.mu d))) := by
  have hb : ∀ j e, Γ[j]? = some (some (.mu e)) → as j ≠ p := fun j e q z => by
    obtain ⟨_, _, o, ho, _⟩ := h.at_ j _ q
    rw [z, hp] at ho; cases ho
  refine ⟨fun j s e1 => ?_, fun j k d1 e1 a b ne => ?_, by simp [h.len]⟩
  · have hj := (List.getElem?_eq_some_iff.mp e1).1
    rw [List.length_set, ← h.len] at hj
    rcases set_get e1 with ⟨rfl, e'⟩ | ⟨ne, e'⟩
    · cases e'
      exact ⟨by rw [List.getElem?_set_self hj, updA_same], by rw [updA_same]; exact e.free hp, o, by rw [updA_same]; exact upd_same, r⟩
    · have q := h.at_ j s e'
      cases s with
      | im d => obtain ⟨w, e1, r1⟩ := q; exact ⟨w, by rw [List.getElem?_set_ne (Ne.symm ne)]; exact e1, r1⟩
      | mu d =>
        obtain ⟨e1, n1, o1, r1, r2⟩ := q
        exact ⟨by rw [List.getElem?_set_ne (Ne.symm ne), updA_ne ne]; exact e1, by rw [updA_ne ne]; exact n1, o1, by rw [updA_ne ne, upd_ne (hb j d e')]; exact r1, r2⟩
  · rcases set_get a with ⟨rfl, a'⟩ | ⟨na, a'⟩
    · rcases set_get b with ⟨rfl, b'⟩ | ⟨nb, b'⟩
      · exact absurd rfl ne
      · rw [updA_same, updA_ne nb]; exact (hb k _ b').symm
    · rcases set_get b with ⟨rfl, b'⟩ | ⟨nb, b'⟩
      · rw [updA_same, updA_ne na]; exact hb j _ a'
      · rw [updA_ne na, updA_ne nb]; exact h.ne j k _ _ a' b' ne
/-- the object of slot i changes -/
theorem Lo.put (h : Lo K I σ H as Γ) {i : Nat} {o : HO} {d0 d : D} (hi : Γ[i]? = some (some (.mu d0))) (r : MRp K I o d) : Lo K I σ (upd H (as i) o) as (Γ.set i (some (.mu d))) := by
  refine ⟨fun j s e1 => ?_, fun j k d1 e1 a b ne => ?_, by simp [h.len]⟩
  · rcases set_get e1 with ⟨rfl, e'⟩ | ⟨ne, e'⟩
    · cases e'
      obtain ⟨e1, n1, o1, r1, r2⟩ := h.at_ j _ hi
      exact ⟨e1, n1, o, upd_same, r⟩
    · have q := h.at_ j s e'
      cases s with
      | im d => exact q
      | mu d =>
        obtain ⟨e1, n1, o1, r1, r2⟩ := q
        exact ⟨e1, n1, o1, by rw [upd_ne (h.ne j i _ _ e' hi ne)]; exact r1, r2⟩
  · rcases set_get a with ⟨rfl, a'⟩ | ⟨na, a'⟩
    · rcases set_get b with ⟨rfl, b'⟩ | ⟨nb, b'⟩
      · exact absurd rfl ne
      · exact h.ne _ _ _ _ hi b' ne
    · rcases set_get b with ⟨rfl, b'⟩ | ⟨nb, b'⟩
      · exact h.ne _ _ _ _ a' hi ne
      · exact h.ne _ _ _ _ a' b' ne
theorem MRp.rp {o : HO} {d : D} {a : Addr} (r : MRp K I o d) (h : I a = some o) : Rp K I (.ref a) d := by
  cases r with
  | lst r => exact .lst h r
  | dic l r => exact .dic h l r
  | ins l r => exact .obj h l r
/-- the object of slot i changes no more -/
theorem Lo.freeze (h : Lo K I σ H as Γ) {i : Nat} {o : HO} {d : D} (hi : Γ[i]? = some (some (.mu d))) (ho : H (as i) = some o) (r : MRp K I o d) : Lo K (upd I (as i) o) σ H as (Γ.set i (some (.im d))) := by
  obtain ⟨e0, n0, _, _, _⟩ := h.at_ i _ hi
  have ei : Ex I (upd I (as i) o) := Ex.new n0
  refine ⟨fun j s e1 => ?_, fun j k d1 e1 a b ne => ?_, by simp [h.len]⟩
  · rcases set_get e1 with ⟨rfl, e'⟩ | ⟨ne, e'⟩
    · cases e'
      exact ⟨_, e0, (r.mono ei).rp upd_same⟩
    · have q := h.at_ j s e'
      cases s with
      | im d => obtain ⟨w, e1, r1⟩ := q; exact ⟨w, e1, r1.mono ei⟩
      | mu d =>
        obtain ⟨e1, n1, o1, r1, r2⟩ := q
        exact ⟨e1, by rw [upd_ne (h.ne j i _ _ e' hi ne)]; exact n1, o1, r1, r2.mono ei⟩
  · rcases set_get a with ⟨_, e'⟩ | ⟨_, a'⟩
    · cases e'
    · rcases set_get b with ⟨_, e'⟩ | ⟨_, b'⟩
      · cases e'
      · exact h.ne j k _ _ a' b' ne
theorem Gr.mut {m : List Addr} {I0 H0 : Hp} (g : Gr m I0 H0 I H) {a : Addr} {o : HO} (n : I a = none) (h : H0 a = none ∨ a ∈ m) : Gr m I0 H0 I (upd H a o) where
  i := g.i
  ih := fun x u q => by
    have z : x ≠ a := fun z => by rw [z, n] at q; cases q
    rw [upd_ne z]; exact g.ih x u q
  h := fun x u hx q => by
    have z : x ≠ a := fun z => by
      rcases h with h | h
      · rw [z, h] at q; cases q
      · exact hx (z ▸ h)
    rw [upd_ne z]; exact g.h x u hx q
  th := fun x q => by
    by_cases z : x = a
    · rw [z, upd_same]; exact nofun
    · rw [upd_ne z]; exact g.th x q
  fr := g.fr
theorem Gr.frz {m : List Addr} {I0 H0 : Hp} (g : Gr m I0 H0 I H) {a : Addr} {o : HO} (n : I a = none) (h : H0 a = none) (ho : H a = some o) : Gr m I0 H0 (upd I a o) H where
  i := g.i.trans (Ex.new n)
  ih := fun x u q => by
    by_cases z : x = a
    · rw [z, upd_same] at q; rw [z, ho]; exact q
    · rw [upd_ne z] at q; exact g.ih x u q
  h := g.h
  th := g.th
  fr := fun x q => by
    have z : x ≠ a := fun z => q (z ▸ h)
    rw [upd_ne z]; exact g.fr x q
end
theorem At.mono {c : Cz} {I I' H H' : Hp} {σ : St} {as : Nat → Addr} {Γ : Sl} (a : At c I σ H as Γ) (g : Gr [] I H I' H') : At c I' σ H' as Γ := ⟨a.gr.trans g.weak, a.lo.mono g, a.ok, a.fix⟩
theorem At.weak {c : Cz} {I H : Hp} {σ : St} {as : Nat → Addr} {Γ Γ' : Sl} (l : Le Γ' Γ) (a : At c I σ H as Γ) : At c I σ H as Γ' := ⟨a.gr, a.lo.weak l, fun i d h => a.ok i d (l.get h), a.fix⟩
theorem At.set {c : Cz} {I H : Hp} {σ : St} {as : Nat → Addr} {Γ : Sl} (a : At c I σ H as Γ) {i : Nat} {v : V} {d : D} (r : Rp c.K I v d) : At c I (σ.set i (some v)) H as (Γ.set i (some (.im d))) :=
  ⟨a.gr, a.lo.set r, fun j e h => by
    rcases set_get h with ⟨_, e'⟩ | ⟨_, h'⟩
    · cases e'
    · exact a.ok j e h', a.fix⟩
section
variable {c : Cz} {Γ Γ' : Sl} {κ : Ks} {te : TE} {t u ts : TS} {d : D} {ds : List D}
theorem b_next (h : κ.nx Γ) : B c Γ tNext κ := fun lb I σ H as De e a k => k.nx I σ H as Γ h e a
theorem b_brk (h : κ.bk Γ) : B c Γ tBreak κ := fun lb I σ H as De e a k => k.bk I σ H as Γ h e a
theorem b_cont (h : κ.ct Γ) : B c Γ tCont κ := fun lb I σ H as De e a k => k.ct I σ H as Γ h e a
theorem b_seq (h : B c Γ t { κ with nx := fun Γ' => B c Γ' u κ }) : B c Γ (tSeq t u) κ := fun lb I σ H as De e a k =>
  h lb I σ H as { De with nx := u De } e a ⟨fun I' σ' H' as' Γ' q e' a' => q lb I' σ' H' as' De e' a' k, k.rt, k.bk, k.ct, k.ex⟩
theorem b_weak (l : Le Γ' Γ) (h : B c Γ' ts κ) : B c Γ ts κ := fun lb I σ H as De e a k => h lb I σ H as De e (a.weak l) k
theorem b_ks {κ' : Ks} (h : B c Γ ts κ') (h1 : ∀ Γ, κ'.nx Γ → κ.nx Γ) (h2 : ∀ d Γ, κ'.rt d Γ → κ.rt d Γ) (h3 : ∀ Γ, κ'.bk Γ → κ.bk Γ) (h4 : ∀ Γ, κ'.ct Γ → κ.ct Γ) (h5 : ∀ Γ C ns ds, κ'.ex Γ C ns ds → κ.ex Γ C ns ds := by exact fun _ _ _ _ h => h) : B c Γ ts κ := fun lb I σ H as De e a k =>
  h lb I σ H as De e a ⟨fun I σ H as Γ q => k.nx I σ H as Γ (h1 Γ q), fun I H Γ v d q => k.rt I H Γ v d (h2 d Γ q), fun I σ H as Γ q => k.bk I σ H as Γ (h3 Γ q), fun I σ H as Γ q => k.ct I σ H as Γ (h4 Γ q), fun I σ H as Γ C ns ds dx q => k.ex I σ H as Γ C ns ds dx (h5 Γ C ns ds q)⟩
theorem b_set {i : Nat} (h : E c.K Γ te d) (k : κ.nx (Γ.set i (some (.im d)))) : B c Γ (tAsg te (gName i)) κ := fun lb I σ H as De e a q =>
  h I σ H as a.gr.ih a.lo _ fun I1 H1 v g r => q.nx _ _ _ _ _ k (e.trans g.i) ((a.mono g).set r)
theorem b_drop (h : E c.K Γ te d) (k : κ.nx Γ) : B c Γ (tDrop te) κ := fun lb I σ H as De e a q =>
  h I σ H as a.gr.ih a.lo _ fun I1 H1 v g r => q.nx _ _ _ _ _ k (e.trans g.i) (a.mono g)
theorem b_ret (h : E c.K Γ te d) (k : κ.rt d Γ) : B c Γ (tRet te) κ := fun lb I σ H as De e a q =>
  h I σ H as a.gr.ih a.lo _ fun I1 H1 v g r => q.rt _ _ _ _ _ k (e.trans g.i) (a.mono g).gr r fun p hp e1 he => by
    obtain ⟨_, _, o, ho, r1⟩ := (a.mono g).lo.at_ _ _ he
    rw [a.fix p hp] at ho
    exact ⟨o, ho, r1⟩
theorem b_retN (k : κ.rt .non Γ) : B c Γ tRetN κ := fun lb I σ H as De e a q =>
  q.rt _ _ _ _ _ k e a.gr .non fun p hp e1 he => by
    obtain ⟨_, _, o, ho, r1⟩ := a.lo.at_ _ _ he
    rw [a.fix p hp] at ho
    exact ⟨o, ho, r1⟩
theorem b_if {tc : TT} {b : Bool} (h : T c.K Γ tc b) (h1 : b = true → B c Γ t κ) (h2 : b = false → B c Γ u κ) : B c Γ (tIfS tc t u) κ := fun lb I σ H as De e a q =>
  h I σ H as a.gr.ih a.lo _ fun I1 H1 g => by
    cases b with
    | true => exact h1 rfl lb I1 σ H1 as De (e.trans g.i) (a.mono g) q
    | false => exact h2 rfl lb I1 σ H1 as De (e.trans g.i) (a.mono g) q
/-- a new list of the def's own -/
theorem b_new {i : Nat} {ta : TA} (h : EA c.K Γ ta ds) (hl : ds.length ≤ sizeLine) (hm : ∀ p ∈ c.m, p.1 ≠ i) (k : κ.nx (Γ.set i (some (.mu (.lst ds))))) : B c Γ (tAsg (tLst ta) (gName i)) κ := fun lb I σ H as De e a q =>
  h I σ H as a.gr.ih a.lo _ fun I1 H1 vs g r => by
    refine ⟨by rw [r.length]; exact hl, fun p hp => ?_⟩
    have a1 := a.mono g
    refine q.nx I1 _ _ (updA as i p) _ k (e.trans g.i) ⟨a1.gr.trans (Gr.junk a1.gr.ih hp), a1.lo.setNew a1.gr.ih hp (.lst r), fun j e1 h1 => ?_, fun p' hp' => by rw [updA_ne (hm p' hp')]; exact a1.fix p' hp'⟩
    rcases set_get h1 with ⟨rfl, _⟩ | ⟨ne, h'⟩
    · rw [updA_same]
      left
      cases z : c.H p with
      | none => rfl
      | some o => exact absurd hp (a1.gr.th p (by rw [z]; exact nofun))
    · rw [updA_ne ne]; exact a1.ok j e1 h'
theorem At.put {c : Cz} {I H : Hp} {σ : St} {as : Nat → Addr} {Γ : Sl} (a : At c I σ H as Γ) {i : Nat} {o : HO} {d0 d : D} (hi : Γ[i]? = some (some (.mu d0))) (r : MRp c.K I o d) : At c I σ (upd H (as i) o) as (Γ.set i (some (.mu d))) := by
  have n0 := (a.lo.at_ i _ hi).2.1
  refine ⟨a.gr.mut n0 ((a.ok i _ hi).imp_right fun z => List.mem_map_of_mem (f := fun p : Nat × Addr => p.2) z), a.lo.put hi r, fun j e h => ?_, a.fix⟩
  rcases set_get h with ⟨rfl, _⟩ | ⟨_, h'⟩
  · exact a.ok j _ hi
  · exact a.ok j e h'
/-- x.append(e) -/
theorem b_append {i : Nat} (hi : Γ[i]? = some (some (.mu (.lst ds)))) (h : E c.K Γ te d) (hl : ds.length < sizeLine) (k : κ.nx (Γ.set i (some (.mu (.lst (ds ++ [d])))))) : B c Γ (tDrop (tBM c.K "list" rAppend (tVar i) (tCons te tNil))) κ := fun lb I σ H as De e a q => by
  obtain ⟨hv, hn, o, ho, r⟩ := a.lo.at_ i _ hi
  cases r with
  | lst r =>
    refine ⟨_, hv, .inl ⟨rfl, _, SqL.of ho⟩, ?_⟩
    refine h I σ H as a.gr.ih a.lo _ fun I1 H1 v g r1 => ?_
    have ho1 := g.ex _ _ ho
    refine ⟨_, _, _, rfl, rfl, ho1, by rw [r.length]; exact hl, ?_⟩
    exact q.nx I1 _ _ as _ k (e.trans g.i) ((a.mono g).put hi (.lst ((r.mono g.i).append (.one r1))))
/-- the object of slot i changes no more -/
theorem At.freeze {c : Cz} {I H : Hp} {σ : St} {as : Nat → Addr} {Γ : Sl} (a : At c I σ H as Γ) {i : Nat} {d : D} (hi : Γ[i]? = some (some (.mu d))) (hm : ∀ p ∈ c.m, p.1 ≠ i) : ∃ I', Ex I I' ∧ At c I' σ H as (Γ.set i (some (.im d))) := by
  obtain ⟨hv, hn, o, ho, r⟩ := a.lo.at_ i _ hi
  have h0 : c.H (as i) = none := (a.ok i _ hi).resolve_right fun z => hm _ z rfl
  refine ⟨upd I (as i) o, Ex.new hn, a.gr.frz hn h0 ho, a.lo.freeze hi ho r, fun j e h => ?_, a.fix⟩
  rcases set_get h with ⟨_, e'⟩ | ⟨_, h'⟩
  · cases e'
  · exact a.ok j e h'
theorem b_freeze (i : Nat) (hi : Γ[i]? = some (some (.mu d))) (hm : ∀ p ∈ c.m, p.1 ≠ i) (h : B c (Γ.set i (some (.im d))) ts κ) : B c Γ ts κ := fun lb I σ H as De e a q => by
  obtain ⟨I', e', a'⟩ := a.freeze hi hm
  exact h lb I' σ H as De (e.trans e') a' q
end
end G

namespace G
open PySem PySem.Spec L2

/-! ### what is walked -/
def IsW (K : PySem.W.Frag) (I : Hp) (J : It) (xs : List D) : Prop := ∃ (Gc : Hp → Prop) (Y : Nat → Hp → V → Hp → Prop), Walk J xs.length Gc Y ∧ (∀ I1 H1, Ex I I1 → Ex I1 H1 → Gc H1) ∧
  ∀ i H x H' I1, i < xs.length → Y i H x H' → Ex I I1 → Ex I1 H → ∃ I2 d, Gr [] I1 H I2 H' ∧ xs[i]? = some d ∧ Rp K I2 x d
def Src (K : PySem.W.Frag) (Γ : Sl) (wi : TI) (xs : List D) : Prop := ∀ (I : Hp) (σ : St) (H : Hp) (as : Nat → Addr), Ex I H → Lo K I σ H as Γ → ∀ R : It → Hp → Prop, (∀ I' H' J, Gr [] I H I' H' → IsW K I' J xs → R J H') → wi σ H R
section
variable {K : PySem.W.Frag} {Γ Γ' : Sl} {te : TE} {ds : List D}
theorem isw_at {I : Hp} {J : It} {vs : List V} {ds : List D} {Gc : Hp → Prop} (w : Walk J vs.length Gc (YAt vs)) (hg : ∀ I1 H1, Ex I I1 → Ex I1 H1 → Gc H1) (r : Rps K I vs ds) : IsW K I J ds :=
  ⟨Gc, YAt vs, by rw [← r.length]; exact w, hg, fun i H x H' I1 _ y e e1 => by
    obtain ⟨rfl, hx⟩ := y
    obtain ⟨d, hd, rx⟩ := r.getV hx
    exact ⟨I1, d, Gr.refl e1, hd, rx.mono e⟩⟩
theorem src_list {d : D} (h : E K Γ te d) (hl : LD d ds) : Src K Γ (iList K te) ds := fun I σ H as e l R q => h I σ H as e l _ fun I1 H1 v g r => by
  obtain ⟨a, vs, rfl, hs, hr⟩ := r.l hl
  exact ⟨_, rfl, ⟨_, ex_l g.ih hs⟩, q I1 H1 _ g (isw_at walk_list (fun I2 H2 e1 e2 => ex_l (e1.trans e2) hs) hr)⟩
theorem src_tup (h : E K Γ te (.tup ds)) : Src K Γ (iTup K te) ds := fun I σ H as e l R q => h I σ H as e l _ fun I1 H1 v g r => by
  cases r with
  | tup hs hr => exact ⟨_, rfl, ⟨_, ex_t g.ih hs⟩, q I1 H1 _ g (isw_at walk_tup (fun I2 H2 e1 e2 => ex_t (e1.trans e2) hs) hr)⟩
/-- the signs of a text -/
def signs (z : Str) : List D := z.cps.toList.map fun c => .str ⟨#[c]⟩
theorem src_str {z : Str} (h : E K Γ te (.str z)) : Src K Γ (iStr te) (signs z) := fun I σ H as e l R q => h I σ H as e l _ fun I1 H1 v g r => by
  cases r
  refine ⟨z, rfl, q I1 H1 _ g ⟨fun _ => True, _, by rw [signs, List.length_map, Array.length_toList]; exact walk_str, fun _ _ _ _ => trivial, ?_⟩⟩
  rintro i H x H' I2 hi ⟨rfl, c, hc, rfl⟩ e1 e2
  refine ⟨I2, .str ⟨#[c]⟩, Gr.refl e2, ?_, .str _⟩
  rw [signs, List.getElem?_map, Array.getElem?_toList, hc]
  rfl
theorem isw_rng {I : Hp} {lo : Int} {n : Nat} : IsW K I (Itr lo n) ((List.range n).map fun (i : Nat) => D.int (lo + (i : Int))) := by
  refine ⟨fun _ => True, _, by rw [List.length_map, List.length_range]; exact walk_range, fun _ _ _ _ => trivial, ?_⟩
  rintro i H x H' I2 hi ⟨rfl, rfl⟩ e1 e2
  rw [List.length_map, List.length_range] at hi
  refine ⟨I2, .int (lo + i), Gr.refl e2, ?_, .int _⟩
  rw [List.getElem?_map, List.getElem?_range hi]
  rfl
theorem src_rng1 {ta : TA} {n : Int} (h : EA K Γ ta [.int n]) (h0 : -(2 ^ 62) ≤ n) (h1 : n < 2 ^ 62) : Src K Γ (iRng1 ta) ((List.range n.toNat).map fun (i : Nat) => D.int (i : Int)) := fun I σ H as e l R q => h I σ H as e l _ fun I1 H1 v g r => by
  cases r with
  | cons a b =>
    cases a; cases b
    refine ⟨n, rfl, h0, h1, q I1 H1 _ g ?_⟩
    have := isw_rng (K := K) (I := I1) (lo := 0) (n := n.toNat)
    simpa using this
theorem src_rng2 {ta : TA} {m n : Int} (h : EA K Γ ta [.int m, .int n]) (h0 : -(2 ^ 62) ≤ m ∧ m < 2 ^ 62 ∧ -(2 ^ 62) ≤ n ∧ n < 2 ^ 62) : Src K Γ (iRng2 ta) ((List.range (n - m).toNat).map fun (i : Nat) => D.int (m + (i : Int))) := fun I σ H as e l R q => h I σ H as e l _ fun I1 H1 v g r => by
  cases r with
  | cons a b =>
    cases a
    cases b with
    | cons a b =>
      cases a; cases b
      exact ⟨m, n, rfl, h0, q I1 H1 _ g isw_rng⟩
theorem isw_pair {I : Hp} {J : It} {n : Nat} {xf yf : Nat → Option V} {xs : List D} {Gc : Hp → Prop} (w : Walk J n Gc (YPair xf yf)) (hn : xs.length = n) (hg : ∀ I1 H1, Ex I I1 → Ex I1 H1 → Gc H1)
    (hx : ∀ i x y, i < n → xf i = some x → yf i = some y → ∃ d e, xs[i]? = some (.tup [d, e]) ∧ Rp K I x d ∧ Rp K I y e) : IsW K I J xs := by
  refine ⟨Gc, YPair xf yf, by rw [hn]; exact w, hg, ?_⟩
  rintro i H v H' I1 hi ⟨T, x, y, rfl, hT, rfl, h1, h2⟩ e1 e2
  obtain ⟨d, e, hd, rx, ry⟩ := hx i x y (hn ▸ hi) h1 h2
  have en := Ex.new (o := .tup [x, y]) (e2.free hT)
  exact ⟨_, _, Gr.new e2 hT, hd, .tup (.inl (.inl upd_same)) (.cons (rx.mono (e1.trans en)) (.cons (ry.mono (e1.trans en)) .nil))⟩
def enumD (ds : List D) : List D := ds.mapIdx fun i d => .tup [.int i, d]
theorem src_enum {ta : TA} {d : D} (h : EA K Γ ta [d]) (hl : LD d ds) : Src K Γ (iEnum K ta) (enumD ds) := fun I σ H as e l R q => h I σ H as e l _ fun I1 H1 v g r => by
  cases r with
  | cons a b =>
    cases b
    obtain ⟨a, vs, rfl, hs, hr⟩ := a.l hl
    · refine ⟨_, _, rfl, ex_l g.ih hs, q I1 H1 _ g (isw_pair walk_enum ?_ (fun I2 H2 e1 e2 => ex_l (e1.trans e2) hs) ?_)⟩
      · rw [enumD, List.length_mapIdx, hr.length]
      · intro i x y hi h1 h2
        obtain ⟨d, hd, rd⟩ := hr.getV h2
        refine ⟨.int i, d, ?_, ?_, rd⟩
        · rw [enumD, List.getElem?_mapIdx, hd]; rfl
        · cases h1; exact .int _
theorem src_zip {ta : TA} {d1 d2 : D} {es : List D} (h : EA K Γ ta [d1, d2]) (hl : LD d1 ds) (hl2 : LD d2 es) : Src K Γ (iZip K ta) ((ds.zip es).map fun p => .tup [p.1, p.2]) := fun I σ H as e l R q => h I σ H as e l _ fun I1 H1 v g r => by
  cases r with
  | cons a b =>
    cases b with
    | cons b c =>
      cases c
      obtain ⟨a, vs, rfl, hs, hr⟩ := a.l hl
      obtain ⟨a2, vs2, rfl, hs2, hr2⟩ := b.l hl2
      · · refine ⟨_, _, _, _, rfl, ex_l g.ih hs, ex_l g.ih hs2, q I1 H1 _ g (isw_pair (walk_zip (n := min ds.length es.length) ?_) ?_ (fun I2 H2 e1 e2 => ⟨ex_l (e1.trans e2) hs, ex_l (e1.trans e2) hs2⟩) ?_)⟩
          · rw [hr.length, hr2.length]
          · rw [List.length_map, List.length_zip]
          · intro i x y hi h1 h2
            obtain ⟨d, hd, rd⟩ := hr.getV h1
            obtain ⟨e, he, re⟩ := hr2.getV h2
            refine ⟨d, e, ?_, rd, re⟩
            rw [List.getElem?_map, List.getElem?_zip_eq_some (z := (d, e)) |>.mpr ⟨hd, he⟩]; rfl
theorem src_rev {ta : TA} {d : D} (h : EA K Γ ta [d]) (hl : LD d ds) : Src K Γ (iRev K ta) ds.reverse := fun I σ H as e l R q => h I σ H as e l _ fun I1 H1 v g r => by
  cases r with
  | cons a b =>
    cases b
    obtain ⟨a', xs, rfl, hs, hr⟩ := a.l hl
    · refine ⟨_, _, rfl, ex_l g.ih hs, q I1 H1 _ g ⟨fun H => SqL K H a' xs, _, by rw [List.length_reverse, ← hr.length]; exact walk_rev, fun I2 H2 e1 e2 => ex_l (e1.trans e2) hs, ?_⟩⟩
      rintro i H x H' I2 hi ⟨rfl, hx⟩ e1 e2
      obtain ⟨d, hd, rd⟩ := hr.getV hx
      rw [List.length_reverse] at hi
      refine ⟨I2, d, Gr.refl e2, ?_, rd.mono e1⟩
      rw [List.getElem?_reverse hi, ← hr.length]; exact hd
theorem src_or1 {w1 w2 : TI} (h : Src K Γ w1 ds) : Src K Γ (fun σ H R => w1 σ H R ∨ w2 σ H R) ds := fun I σ H as e l R q => .inl (h I σ H as e l R q)
theorem src_or2 {w1 w2 : TI} (h : Src K Γ w2 ds) : Src K Γ (fun σ H R => w1 σ H R ∨ w2 σ H R) ds := fun I σ H as e l R q => .inr (h I σ H as e l R q)

/-! ### targets -/
def MuSub (Γ' Γ : Sl) : Prop := ∀ (i : Nat) (d : D), Γ'[i]? = some (some (SV.mu d)) → Γ[i]? = some (some (SV.mu d))
structure Tgt (K : PySem.W.Frag) (g : TG) (d : D) (ws : List Nat) (Γ Γ' : Sl) : Prop where
  sub : MuSub Γ' Γ
  run : ∀ (I : Hp) (σ : St) (H : Hp) (as : Nat → Addr) (v : V), Ex I H → Lo K I σ H as Γ → Rp K I v d → ∀ Q : St → Hp → Prop, (∀ σ', Lo K I σ' H as Γ' → (∀ j, j ∉ ws → σ'[j]? = σ[j]?) → σ'.length = σ.length → Q σ' H) → g v σ H Q
structure Tgts (K : PySem.W.Frag) (g : TGs) (ds : List D) (ws : List Nat) (Γ Γ' : Sl) : Prop where
  sub : MuSub Γ' Γ
  run : ∀ (I : Hp) (σ : St) (H : Hp) (as : Nat → Addr) (vs : List V), Ex I H → Lo K I σ H as Γ → Rps K I vs ds → ∀ Q : St → Hp → Prop, (∀ σ', Lo K I σ' H as Γ' → (∀ j, j ∉ ws → σ'[j]? = σ[j]?) → σ'.length = σ.length → Q σ' H) → g vs σ H Q
theorem tgt_name {i : Nat} {d : D} : Tgt K (gName i) d [i] Γ (Γ.set i (some (.im d))) := ⟨fun j e h => by
    rcases set_get h with ⟨_, z⟩ | ⟨_, z⟩
    · cases z
    · exact z, fun I σ H as v e l r Q q => q _ (l.set r) (fun j hj => List.getElem?_set_ne (fun z => hj (by rw [z]; exact List.mem_singleton.mpr rfl))) (by simp)⟩
theorem tgs_nil : Tgts K gNil [] [] Γ Γ := ⟨fun _ _ h => h, fun I σ H as vs e l r Q q => by
    cases r
    exact ⟨rfl, q σ l (fun _ _ => rfl) rfl⟩⟩
theorem tgs_cons {g : TG} {gs : TGs} {d : D} {w1 w2 : List Nat} {Γ2 : Sl} (h : Tgt K g d w1 Γ Γ2) (hs : Tgts K gs ds w2 Γ2 Γ') : Tgts K (gCons g gs) (d :: ds) (w1 ++ w2) Γ Γ' := ⟨fun j e a => h.sub j e (hs.sub j e a), fun I σ H as vs e l r Q q => by
    cases r with
    | cons a b =>
      refine ⟨_, _, rfl, h.run I σ H as _ e l a _ fun σ1 l1 k1 n1 => hs.run I σ1 H as _ e l1 b _ fun σ2 l2 k2 n2 => q σ2 l2 (fun j hj => ?_) (n2.trans n1)⟩
      rw [List.mem_append] at hj
      exact (k2 j fun z => hj (.inr z)).trans (k1 j fun z => hj (.inl z))⟩
theorem tgt_tup {gs : TGs} {n : Nat} {ws : List Nat} (h : Tgts K gs ds ws Γ Γ') (hn : ds.length = n) : Tgt K (gTup K n gs) (.tup ds) ws Γ Γ' := ⟨h.sub, fun I σ H as v e l r Q q => by
    cases r with
    | tup hs hr => exact ⟨_, _, rfl, ex_t e hs, by rw [hr.length]; exact hn, h.run I σ H as _ e l hr Q q⟩⟩
end

/-! ### loops -/
section
variable {c : Cz} {Γ : Sl} {κ : Ks}
theorem b_for {wi : TI} {g : TG} {tb : TS} {xs : List D} (hs : Src c.K Γ wi xs) {S : Type} (R : Nat → S → Prop) (Γf : S → Sl) (s0 : S) (h0 : R 0 s0) (l0 : Le (Γf s0) Γ)
    (ht : ∀ i s d, xs[i]? = some d → R i s → ∃ ws Γ1, Tgt c.K g d ws (Γf s) Γ1 ∧ B c Γ1 tb ⟨fun Γ' => ∃ s', R (i + 1) s' ∧ Le (Γf s') Γ', κ.rt, κ.nx, fun Γ' => ∃ s', R (i + 1) s' ∧ Le (Γf s') Γ', κ.ex⟩)
    (hd : ∀ s, R xs.length s → κ.nx (Γf s)) : B c Γ (tFor wi g tb) κ := fun lb I σ H as De e a k =>
  hs I σ H as a.gr.ih a.lo _ fun I1 H1 J g1 hw => by
    obtain ⟨Gc, Y, w, hg, hy⟩ := hw
    refine for_it (g := g) (tb := tb) (D := De) w (fun i σ H => ∃ I as s, R i s ∧ Ex I1 I ∧ At c I σ H as (Γf s)) ⟨I1, as, s0, h0, Ex.refl _, (a.mono g1).weak l0⟩ (fun i σ H _ ⟨I, as, s, _, e1, a1⟩ => hg I H e1 a1.gr.ih) ?_ ?_
    · rintro i x σ H H' hi ⟨I, as, s, r, e1, a1⟩ y
      obtain ⟨I2, d, g2, hd2, rx⟩ := hy i H x H' I hi y e1 a1.gr.ih
      obtain ⟨ws, Γ1, tg, hb⟩ := ht i s d hd2 r
      have a2 := a1.mono g2
      refine tg.run I2 σ H' as x g2.ih a2.lo rx _ fun σ' lo' _ _ => ?_
      have e3 : Ex I1 I2 := e1.trans g2.i
      have e0 : Ex lb I1 := e.trans g1.i
      exact hb I1 I2 σ' H' as _ e3 ⟨a2.gr, lo', fun j d h => a2.ok j d (tg.sub j d h), a2.fix⟩ ⟨fun I3 σ3 H3 as3 Γ3 ⟨s', r', le⟩ e4 a4 => ⟨I3, as3, s', r', e4, a4.weak le⟩,
        fun I3 H3 Γ3 v d hr e4 => k.rt I3 H3 Γ3 v d hr (e0.trans e4), fun I3 σ3 H3 as3 Γ3 hb e4 a4 => k.nx I3 σ3 H3 as3 Γ3 hb (e0.trans e4) a4, fun I3 σ3 H3 as3 Γ3 ⟨s', r', le⟩ e4 a4 => ⟨I3, as3, s', r', e4, a4.weak le⟩, fun I3 σ3 H3 as3 Γ3 C ns ds dx hx e4 => k.ex I3 σ3 H3 as3 Γ3 C ns ds dx hx (e0.trans e4)⟩
    · rintro σ H ⟨I, as, s, r, e1, a1⟩
      exact k.nx I σ H as _ (hd s r) ((e.trans g1.i).trans e1) a1
theorem b_while {tc : TT} {tb : TS} {S : Type} (R : S → Prop) (b : S → Bool) (mes : S → Nat) (Γf : S → Sl) (s0 : S) (h0 : R s0) (l0 : Le (Γf s0) Γ) (hc : ∀ s, R s → T c.K (Γf s) tc (b s))
    (ht : ∀ s, R s → b s = true → B c (Γf s) tb ⟨fun Γ' => ∃ s', R s' ∧ mes s' < mes s ∧ Le (Γf s') Γ', κ.rt, κ.nx, fun Γ' => ∃ s', R s' ∧ mes s' < mes s ∧ Le (Γf s') Γ', κ.ex⟩)
    (hd : ∀ s, R s → b s = false → κ.nx (Γf s)) : B c Γ (tWhile tc tb) κ := fun lb I σ H as De e a k => by
  refine ⟨fun m σ H => ∃ I as s, R s ∧ m = mes s ∧ Ex lb I ∧ At c I σ H as (Γf s), ⟨mes s0, I, as, s0, h0, rfl, e, a.weak l0⟩, ?_⟩
  rintro m σ H ⟨I, as, s, r, rfl, e1, a1⟩
  refine hc s r I σ H as a1.gr.ih a1.lo _ fun I1 H1 g1 => ?_
  have a2 := a1.mono g1
  have e2 := e1.trans g1.i
  cases hb : b s with
  | true =>
    rw [if_pos rfl]
    refine ⟨fun σ' H' => ∃ I as s', R s' ∧ mes s' < mes s ∧ Ex lb I ∧ At c I σ' H' as (Γf s'), fun σ' H' ⟨I, as, s', r', lt, e', a'⟩ => ⟨_, lt, I, as, s', r', rfl, e', a'⟩, ?_⟩
    exact ht s r hb lb I1 σ H1 as _ e2 a2 ⟨fun I3 σ3 H3 as3 Γ3 ⟨s', r', lt, le⟩ e4 a4 => ⟨I3, as3, s', r', lt, e4, a4.weak le⟩, k.rt, fun I3 σ3 H3 as3 Γ3 hb e4 a4 => k.nx I3 σ3 H3 as3 Γ3 hb e4 a4, fun I3 σ3 H3 as3 Γ3 ⟨s', r', lt, le⟩ e4 a4 => ⟨I3, as3, s', r', lt, e4, a4.weak le⟩, k.ex⟩
  | false =>
    rw [if_neg Bool.false_ne_true]
    exact k.nx I1 σ H1 as _ (hd s r hb) e2 a2
end

/-! ### comprehensions -/
def wipeG (Γ : Sl) : List Nat → Sl
  | [] => Γ
  | v :: vs => (wipeG Γ vs).set v none
section
variable {K : PySem.W.Frag} {Γ : Sl}
theorem wipeG_len {vs : List Nat} : (wipeG Γ vs).length = Γ.length := by
  induction vs with
  | nil => rfl
  | cons v vs ih => unfold wipeG; rw [List.length_set, ih]
theorem wipeG_get {vs : List Nat} {i : Nat} {s : SV} (h : (wipeG Γ vs)[i]? = some (some s)) : Γ[i]? = some (some s) ∧ i ∉ vs := by
  induction vs with
  | nil => exact ⟨h, by simp⟩
  | cons v vs ih =>
    unfold wipeG at h
    rcases set_get h with ⟨_, z⟩ | ⟨ne, z⟩
    · cases z
    · obtain ⟨a, b⟩ := ih z
      exact ⟨a, by simp [ne, b]⟩
theorem wipe_get {σ : St} {vs : List Nat} {i : Nat} (h : i ∉ vs) : (wipe σ vs)[i]? = σ[i]? := by
  induction vs with
  | nil => rfl
  | cons v vs ih =>
    unfold wipe
    rw [List.getElem?_set_ne (fun z => h (by rw [z]; exact List.mem_cons_self)), ih fun z => h (List.mem_cons_of_mem _ z)]
theorem Lo.wipe {I H : Hp} {σ : St} {as : Nat → Addr} (l : Lo K I σ H as Γ) (vs : List Nat) : Lo K I (wipe σ vs) H as (wipeG Γ vs) := by
  refine ⟨fun i s h => ?_, fun i j d e a b => l.ne i j d e (wipeG_get a).1 (wipeG_get b).1, by rw [wipe_length, wipeG_len, l.len]⟩
  obtain ⟨h1, h2⟩ := wipeG_get h
  have q := l.at_ i s h1
  cases s with
  | im d => obtain ⟨v, e, r⟩ := q; exact ⟨v, by rw [wipe_get h2]; exact e, r⟩
  | mu d => obtain ⟨e, r⟩ := q; exact ⟨by rw [wipe_get h2]; exact e, r⟩
theorem wipe_eq {σ σ' : St} {vs ws : List Nat} (h : ∀ j, j ∉ ws → σ'[j]? = (wipe σ vs)[j]?) (hl : σ'.length = (wipe σ vs).length) (hw : ∀ j ∈ ws, j ∈ vs) : wipe σ' vs = wipe σ vs := by
  have key : ∀ (vs : List Nat) (σ1 σ2 : St), σ1.length = σ2.length → (∀ j, j ∉ vs → σ1[j]? = σ2[j]?) → wipe σ1 vs = wipe σ2 vs := by
    intro vs
    induction vs with
    | nil => intro σ1 σ2 _ h; exact List.ext_getElem? fun j => h j (by simp)
    | cons v vs ih =>
      intro σ1 σ2 hl h
      have e : (wipe σ1 vs).set v none = (wipe σ2 vs).set v none := by
        refine List.ext_getElem? fun j => ?_
        by_cases z : j = v
        · subst z
          rw [List.getElem?_set, List.getElem?_set, if_pos rfl, if_pos rfl, wipe_length, wipe_length, hl]
        · rw [List.getElem?_set_ne (Ne.symm z), List.getElem?_set_ne (Ne.symm z)]
          by_cases zz : j ∈ vs
          · have none_at : ∀ (vs : List Nat) (σ : St), j ∈ vs → (wipe σ vs)[j]? = if j < σ.length then some none else none := by
              intro vs
              induction vs with
              | nil => intro σ h; simp at h
              | cons u us ihh =>
                intro σ hm
                unfold wipe
                by_cases q : j = u
                · subst q; rw [List.getElem?_set, if_pos rfl, wipe_length]; 
                · rw [List.getElem?_set_ne (Ne.symm q)]
                  exact ihh σ ((List.mem_cons.mp hm).resolve_left q)
            rw [none_at vs σ1 zz, none_at vs σ2 zz, hl]
          · rw [wipe_get zz, wipe_get zz]
            exact h j (by simp [z, zz])
      exact e
  have e1 : wipe σ' vs = wipe (wipe σ vs) vs := key vs _ _ hl fun j hj => h j fun z => hj (hw j z)
  have e2 : wipe (wipe σ vs) vs = wipe σ vs := key vs _ _ (wipe_length σ vs) fun j hj => wipe_get hj
  exact e1.trans e2
theorem e_lc {α : Type} {xs : List α} {em : α → D} {p : α → Bool} {f : α → D} {wi : TI} {g : TG} {tt : TT} {te : TE} {vs : List Nat} (hs : Src K Γ wi (xs.map em)) (hl : xs.length ≤ 10000000)
    (ht : ∀ (i : Nat) (x : α), xs[i]? = some x → ∃ ws Γ1, Tgt K g (em x) ws (wipeG Γ vs) Γ1 ∧ (∀ j ∈ ws, j ∈ vs) ∧ T K Γ1 tt (p x) ∧ (p x = true → E K Γ1 te (f x))) : E K Γ (tLc wi g tt te vs) (.lst ((xs.filter p).map f)) := fun I σ H as e l Q q =>
  hs I σ H as e l _ fun I1 H1 J g1 hw => fun Dd hD => by
    obtain ⟨Gc, Y, w, hg, hy⟩ := hw
    rw [List.length_map] at w hy
    have fresh1 : I1 Dd = none := g1.ih.free hD
    refine lc_it (Qd := fun H => Q (.ref Dd) H) w (fun i H => ∃ I' acc, Gr [] I1 H1 I' H ∧ I' Dd = none ∧ H Dd = some (.lst acc) ∧ Rps K I' acc (((xs.take i).filter p).map f) ∧ Lo K I' σ H as Γ)
      ⟨I1, [], Gr.junk g1.ih hD, fresh1, upd_same, by simp; exact .nil, (l.mono g1).mono (Gr.junk g1.ih hD)⟩ (fun i H _ ⟨I', acc, g2, _⟩ => hg I' H g2.i g2.ih) ?_ ?_
    · rintro i v H2 H3 hi ⟨I2, acc, g2, n2, a2, r2, l2⟩ y
      obtain ⟨I3, d, g3, hd, rx⟩ := hy i H2 v H3 I2 hi y g2.i g2.ih
      rw [List.getElem?_map] at hd
      obtain ⟨x, hx⟩ : ∃ x, xs[i]? = some x := by
        cases hx : xs[i]? with
        | none => rw [hx] at hd; cases hd
        | some x => exact ⟨x, rfl⟩
      rw [hx] at hd
      cases hd
      obtain ⟨ws, Γ1, tg, hws, t1, t2⟩ := ht i x hx
      have nn : H2 Dd ≠ none := by rw [a2]; exact nofun
      refine tg.run I3 (wipe σ vs) H3 as v g3.ih ((l2.mono g3).wipe vs) rx _ fun σ' l' k' n' => ⟨wipe_eq k' n' hws, ?_⟩
      refine t1 I3 σ' H3 as g3.ih l' _ fun I4 H4 g4 => ?_
      have g34 := g3.trans g4
      have htake : xs.take (i + 1) = xs.take i ++ [x] := by rw [List.take_add_one, hx]; rfl
      have hlen : ((xs.take (i + 1)).filter p).length ≤ xs.length := Nat.le_trans (List.length_filter_le _ _) (by rw [List.length_take]; omega)
      cases hp : p x with
      | true =>
        rw [if_pos rfl]
        refine t2 hp I4 σ' H4 as g4.ih (l'.mono g4) _ fun I5 H5 z g5 r5 => ?_
        have g345 := g34.trans g5
        refine ⟨acc, g345.ex _ _ a2, ?_, I5, _, (g2.trans g345).mut (g345.none_i n2 nn) (.inl hD), g345.none_i n2 nn, upd_same, ?_, ?_⟩
        · have := r2.length
          rw [this, List.length_map]
          have h3 : ((xs.take i).filter p).length ≤ xs.length := Nat.le_trans (List.length_filter_le _ _) (by rw [List.length_take]; omega)
          rw [sizeLine_eq]; omega
        · rw [htake, List.filter_append, List.map_append]
          refine (r2.mono g345.i).append ?_
          simp [hp]
          exact .one r5
        · refine ⟨fun j s hj => ?_, l2.ne, l2.len⟩
          have q1 := (l2.mono g345).at_ j s hj
          cases s with
          | im d => exact q1
          | mu d =>
            obtain ⟨e1, n1, o1, r1, r3⟩ := q1
            refine ⟨e1, n1, o1, ?_, r3⟩
            have : as j ≠ Dd := fun z => by
              obtain ⟨_, _, o, ho, _⟩ := l.at_ j _ hj
              rw [z] at ho
              rw [g1.ex _ _ ho] at hD
              cases hD
            rw [upd_ne this]; exact r1
      | false =>
        rw [if_neg Bool.false_ne_true]
        refine ⟨I4, acc, g2.trans g34, g34.none_i n2 nn, g34.ex _ _ a2, ?_, l2.mono g34⟩
        rw [htake, List.filter_append, List.map_append]
        simp [hp]
        exact r2.mono g34.i
    · rintro H2 ⟨I2, acc, g2, n2, a2, r2, _⟩
      rw [List.take_of_length_le (Nat.le_refl _)] at r2
      have g12 := g1.trans g2
      have hH : H Dd = none := g1.ex.free hD
      refine q _ _ _ (g12.frz n2 hH a2) (.lst upd_same (r2.mono (Ex.new n2)))
end

/-! ### defs -/
/-- the promise of a def that raises nothing and changes nothing: R arguments result -/
def spR (K : PySem.W.Frag) (R : List D → D → Prop) : Sp := fun vs H Q _ => ∃ (I : Hp) (ds : List D) (d : D), Ex I H ∧ Rps K I vs ds ∧ R ds d ∧ ∀ I' H' v, Gr [] I H I' H' → Rp K I' v d → Q v H'
section
variable {K : PySem.W.Frag} {Γ : Sl}
theorem e_call {R : List D → D → Prop} {dvs : List V} {dds : List D} {EE : XK} {ta : TA} {ds : List D} {d : D} (ha : EA K Γ ta ds) (hd : ∀ I, Rps K I dvs dds) (hr : R (ds ++ dds) d) : E K Γ (tCall (spR K R) dvs EE ta) d := fun I σ H as e l Q q =>
  ha I σ H as e l _ fun I1 H1 vs g1 r1 => ⟨I1, _, d, g1.ih, r1.append (hd _), hr, fun I2 H2 v g2 r2 => q I2 H2 v (g1.trans g2) r2⟩
theorem e_call0 {R : List D → D → Prop} {EE : XK} {ta : TA} {ds : List D} {d : D} (ha : EA K Γ ta ds) (hr : R ds d) : E K Γ (tCall (spR K R) [] EE ta) d := e_call (dds := []) ha (fun _ => .nil) (by rw [List.append_nil]; exact hr)
/-- the slots at a def's entry -/
def slots (N : List Str) (ds : List D) : Sl := ds.map (fun d => some (.im d)) ++ List.replicate (N.length - ds.length) none
theorem lo_start {I H : Hp} {N : List Str} {vs : List V} {ds : List D} (r : Rps K I vs ds) : Lo K I (L2.start N vs) H (fun _ => 0) (slots N ds) := by
  have nomu : ∀ (i : Nat) (d : D), (slots N ds)[i]? ≠ some (some (SV.mu d)) := fun i d h => by
    unfold slots at h
    rw [List.getElem?_append] at h
    split at h
    · rw [List.getElem?_map] at h
      cases q : ds[i]? with
      | none => rw [q] at h; cases h
      | some x => rw [q] at h; cases h
    · have := List.getElem?_eq_some_iff.mp h
      obtain ⟨a, b⟩ := this
      rw [List.getElem_replicate] at b
      cases b
  refine ⟨fun i s h => ?_, fun i j d e a _ => absurd a (nomu i d), ?_⟩
  · cases s with
    | mu d => exact absurd h (nomu i d)
    | im d =>
      unfold slots at h
      rw [List.getElem?_append] at h
      split at h
      · rename_i hlt
        rw [List.getElem?_map] at h
        cases q : ds[i]? with
        | none => rw [q] at h; cases h
        | some x =>
          rw [q] at h
          cases h
          obtain ⟨v, hv, rv⟩ := r.get q
          refine ⟨v, ?_, rv⟩
          unfold L2.start
          rw [List.getElem?_append_left (by rw [List.length_map]; exact (List.getElem?_eq_some_iff.mp hv).1), List.getElem?_map, hv]
          rfl
      · have := List.getElem?_eq_some_iff.mp h
        obtain ⟨a, b⟩ := this
        rw [List.getElem_replicate] at b
        cases b
  · unfold L2.start slots
    simp [r.length]
/-- THE RULE for such a def -/
theorem ok_of {P : Program} {w : World} {mg : Str → Option Value} {base : Heap} {x qual : Str} {st : Stmt} {f : Addr} {fd : FuncData} {N ps : List Str} {k : Nat} {R : List D → D → Prop} (F : Fun K x qual st f fd) (S : FnScope N ps (defScope st)) (hn : ∀ ds d, R ds d → ds.length = ps.length)
    (hb : ∀ (cdv : Value) (A : Around) (outer : List Env) (s : Shared) (H : Hp) (E : XK), Room k (A.deeper (PyProof.Rows.envOfC qual (defScope st) s.heap.objs.size f cdv)) →
      ∃ t, PSs (cxOf CX0 P w K mg base N qual (defScope st) f cdv A outer s H E).nox (defBody st) t ∧ ∀ (I H' : Hp) ds d, R ds d → B ⟨K, I, H', [], fun _ _ _ _ => False⟩ (slots N ds) t { nx := fun _ => d = .non, rt := fun e _ => e = d }) :
    FnOk P w K mg base CX0 (k + 1) f fd ps (spR K R) := by
  refine F.ok S (fun vs H Q E h => ?_) (fun cdv A outer s H vs Q E hr h => ?_)
  · obtain ⟨I, ds, d, _, r, hR, _⟩ := h
    rw [r.length]; exact hn ds d hR
  · obtain ⟨I, ds, d, e, r, hR, q⟩ := h
    obtain ⟨t, ht, hB⟩ := hb cdv A outer s H E hr
    refine ⟨t, ht, hB I H ds d hR I I _ H (fun _ => 0) _ (Ex.refl _) ⟨Gr.refl e, lo_start r, fun i d h => ?_, fun p hp => nomatch hp⟩ ⟨fun I1 σ1 H1 as Γ1 h1 _ a1 => ?_, fun I1 H1 Γ1 v e1 h1 _ g1 r1 _ => ?_, fun _ _ _ _ _ h => h.elim, fun _ _ _ _ _ h => h.elim, fun _ _ _ _ _ _ _ _ _ h => h.elim⟩⟩
    · obtain ⟨_, _, o, _, _⟩ := (lo_start (N := N) (H := H) r).at_ i _ h
      exfalso
      unfold slots at h
      rw [List.getElem?_append] at h
      split at h
      · rw [List.getElem?_map] at h
        cases q : ds[i]? with
        | none => rw [q] at h; cases h
        | some x => rw [q] at h; cases h
      · obtain ⟨a, b⟩ := List.getElem?_eq_some_iff.mp h
        rw [List.getElem_replicate] at b
        cases b
    · have hd : d = .non := h1
      subst hd
      exact q I1 H1 .non a1.gr .non
    · have hd : e1 = d := h1
      subst hd
      exact q I1 H1 v g1 r1
end
end G

namespace G
open PySem PySem.Spec L2 PySem.SeqAt
open AutoSeq1 (wpAny_loadPart')
theorem dict_eq_declines_int (l : Addr) (o : Obj) (hc : o.cls = .type "dict") (b : Int) (u : Tok) :
    Meets (Builtin.«dict.__eq__» ⟨[.ref l, .int b u], []⟩) (fun _ R s => s.heap.get? l = some o ∧ R (.ok (.ret .notImplemented)) s) :=
  .of_wp fun prog w A R s h => by
    obtain ⟨hp, g, d, tk, os⟩ := s; obtain ⟨hl, h⟩ := h; have f1 := F.sub_int_dict
    obtain ⟨cls, dd, data, sl⟩ := o
    simp only at hc
    subst hc
    unfold Builtin.«dict.__eq__»
    wp_walk using wpAny_loadPart' hl, wpAny_load hl
    exact ⟨_, rfl, h⟩
theorem int_eq_declines_dict (b : Int) (u : Tok) (l : Addr) (o : Obj) (hc : o.cls = .type "dict") {es} {ep} (hd : o.data = .dict es ep) :
    Meets (Builtin.«int.__eq__» ⟨[.int b u, .ref l], []⟩) (fun _ R s => s.heap.get? l = some o ∧ R (.ok (.ret .notImplemented)) s) :=
  .of_wp fun prog w A R s h => by
    obtain ⟨hp, g, d, tk, os⟩ := s; obtain ⟨hl, h⟩ := h; have f1 := F.sub_dict_int
    obtain ⟨cls, dd, data, sl⟩ := o
    simp only at hc hd
    subst hc hd
    wp_walk using wpAny_loadPart' hl, wpAny_load hl
    exact ⟨_, rfl, h⟩
theorem rc_dict_int {A : Around} {s : Shared} {l : Addr} {o : Obj} {es} {ep} (b : Int) (u : Tok) (ho : s.heap.get? l = some o) (hc : o.cls = .type "dict") (hd : o.data = .dict es ep) (hu : A.units < cLine) : RcAt A s (.ref l) (.int b u) false := fun prog w E Q h => by
  obtain ⟨cls, dd, data, sl⟩ := o
  simp only at hc hd
  subst hc hd
  exact rc_eq_decline_or (k := false) ⟨_, ho, rfl⟩ (typeIs_int s b u) (by decide) F.sub_int_dict F.slot_dict_eq F.slot_int_eq_refl
    (fun _ hq => call_meets F.slot_dict_eq ⟨_, ho, rfl⟩ F.entry_dict_eq (F.args_dict_eq_2 _ _) (dict_eq_declines_int l _ rfl b u) ⟨ho, hq⟩)
    (fun _ hq => call_meets F.slot_int_eq_refl (typeIs_int s b u) F.entry_int_eq (F.args_int_eq_2 _ _) (int_eq_declines_dict b u l _ rfl rfl) ⟨ho, hq⟩)
    (fun _ hq => wpAny_of_eq (rfl : isSame (.ref l) (.int b u) = pure false) hq) (.inr hu) h
def rEqDi : R2 := fun x y H Q => ∃ a kvs j, x = .ref a ∧ H a = some (.dK kvs) ∧ y = .int j ∧ Q (.bl false) H
theorem op_eqDi {X : Cx} (hu : X.A.units + 64 < cLine) : OpR X (compareOp .Eq) rEqDi := by
  intro pins s σ H x y v u Q I rx ry h
  obtain ⟨a, kvs, j, rfl, e, rfl, q⟩ := h
  obtain rfl : v = Value.ref a := rx
  obtain ⟨t, rfl⟩ := (show ∃ t, u = Value.int j t from ry)
  obtain ⟨_, _, vs, _, o, es, ep, h1, h2, h3, _⟩ := (show ObjOk X.prog X.w H s.heap a (.dK kvs) from I.hok a _ e)
  exact (rc_dict_int j t h1 h2.1 h3 (by omega)) X.prog X.w _ _ ⟨.bl false, H, I, rfl, q⟩
end G

namespace G
open PySem L2

/-! ### rules that serve several kinds of values -/
section
variable {X : Cx}
theorem op_or {f : Value → Value → Sem Value} {r1 r2 : R2} (h1 : OpR X f r1) (h2 : OpR X f r2) : OpR X f (fun x y H Q => r1 x y H Q ∨ r2 x y H Q) := fun pins s σ H x y v u Q I rx ry h =>
  h.elim (fun h => h1 pins s σ H x y v u Q I rx ry h) (fun h => h2 pins s σ H x y v u Q I rx ry h)
theorem ca_or {f : Value} {r1 r2 : List V → Hp → VK → Prop} (h1 : CallR X f r1) (h2 : CallR X f r2) : CallR X f (fun x H Q => r1 x H Q ∨ r2 x H Q) := fun pins s σ H x u Q I rx h =>
  h.elim (fun h => h1 pins s σ H x u Q I rx h) (fun h => h2 pins s σ H x u Q I rx h)
theorem pi_or {tg it : Expr} {w1 w2 : TI} (h1 : PI X tg it w1) (h2 : PI X tg it w2) : PI X tg it (fun σ H R => w1 σ H R ∨ w2 σ H R) := ⟨fun pins s σ H R I h =>
  h.elim (fun h => h1.run pins s σ H R I h) (fun h => h2.run pins s σ H R I h)⟩
def rCatStr : R2 := fun x y H Q => ∃ i j, x = .str i ∧ y = .str j ∧ i.length + j.length ≤ sizeLine ∧ Q (.str (i ++ j)) H
def uAdd (K : PySem.W.Frag) : R2 := fun x y H Q => rI0 (fun i j => .int (i + j)) x y H Q ∨ (fun x y H Q => rCatStr x y H Q ∨ (fun x y H Q => rCat x y H Q ∨ rCatA K x y H Q) x y H Q) x y H Q
theorem op_uAdd : OpR X (binaryOp .Add) (uAdd X.K) := op_or op_add (op_or op_add_str (op_or op_cat op_catA))
def uMul : R2 := fun x y H Q => rI CMulW (fun i j => .int (i * j)) x y H Q ∨ rRep x y H Q
theorem op_uMul : OpR X (binaryOp .Mult) uMul := op_or op_mulW op_rep
def uEq (K : PySem.W.Frag) : R2 := fun x y H Q => rEq x y H Q ∨ (fun x y H Q => rEqD K x y H Q ∨ rEqDi x y H Q) x y H Q
def uNe (K : PySem.W.Frag) : R2 := fun x y H Q => rNe x y H Q ∨ rNeD K x y H Q
theorem op_uEq (hu : X.A.units + 64 < cLine) : OpR X (compareOp .Eq) (uEq X.K) := op_or op_eq (op_or (op_eqD hu) (op_eqDi hu))
theorem op_uNe (hu : X.A.units + 64 < cLine) : OpR X (compareOp .NotEq) (uNe X.K) := op_or op_ne (op_neD hu)
def rInSg : R2 := fun x y H Q => ∃ (c : Nat) (z : Str), x = .str ⟨#[c]⟩ ∧ y = .str z ∧ Q (.bl (decide (c ∈ z.cps.toList))) H
def rNiSg : R2 := fun x y H Q => ∃ (c : Nat) (z : Str), x = .str ⟨#[c]⟩ ∧ y = .str z ∧ Q (.bl (!decide (c ∈ z.cps.toList))) H
def uIn (K : PySem.W.Frag) : R2 := fun x y H Q => rInSg x y H Q ∨ rIn K false x y H Q
def uNi (K : PySem.W.Frag) : R2 := fun x y H Q => rNiSg x y H Q ∨ rIn K true x y H Q
theorem op_uIn : OpR X (compareOp .In) (uIn X.K) := op_or op_in_sign op_in_seq
theorem op_uNi : OpR X (compareOp .NotIn) (uNi X.K) := op_or op_notIn_sign op_notIn_seq
def uSl (K : PySem.W.Frag) : V → Option Int → Option Int → Hp → VK → Prop := fun x lo hi H Q => rSlL K x lo hi H Q ∨ (fun x lo hi H Q => rSlA K x lo hi H Q ∨ rSlS x lo hi H Q) x lo hi H Q
theorem sl_u : SlR X (uSl X.K) := sl_list.or (sl_tupA.or sl_str)
def rLn (K : PySem.W.Frag) : List V → Hp → VK → Prop := fun xs H Q => ∃ x n, xs = [x] ∧ LenV K x H n ∧ Q (.int n) H
def rLnD : List V → Hp → VK → Prop := fun xs H Q => ∃ a kvs, xs = [V.ref a] ∧ H a = some (.dK kvs) ∧ Q (.int kvs.length) H
def uLen (K : PySem.W.Frag) : List V → Hp → VK → Prop := fun x H Q => rLn K x H Q ∨ rLnD x H Q
theorem cr_uLen : CallR X (.builtin "len") (uLen X.K) := ca_or call_len call_lenD
/-- what is walked: a list, a tuple, a text -/
theorem pi_u {tg e : Expr} {te : TE} (he : PE X e te) : PI X tg e (fun σ H R => iList X.K te σ H R ∨ (fun σ H R => iTup X.K te σ H R ∨ iStr te σ H R) σ H R) := pi_or (pi_list he) (pi_or (pi_tup he) (pi_str he))
end

/-! ### what they give -/
section
variable {K : PySem.W.Frag} {Γ : Sl}
theorem bin_add_int {i j : Int} : Bin K (uAdd K) (.int i) (.int j) (.int (i + j)) := fun I H u v e r1 r2 Q q => by
  cases r1; cases r2
  exact .inl ⟨i, j, rfl, rfl, q I H _ (Gr.refl e) (.int _)⟩
theorem bin_add_str {x y : Str} (hl : x.length + y.length ≤ sizeLine) : Bin K (uAdd K) (.str x) (.str y) (.str (x ++ y)) := fun I H u v e r1 r2 Q q => by
  cases r1; cases r2
  exact .inr (.inl ⟨x, y, rfl, rfl, hl, q I H _ (Gr.refl e) (.str _)⟩)
theorem bin_add_lst {xs ys : List D} (hl : xs.length + ys.length ≤ sizeLine) : Bin K (uAdd K) (.lst xs) (.lst ys) (.lst (xs ++ ys)) := fun I H u v e r1 r2 Q q => by
  cases r1 with
  | lst a b =>
    cases r2 with
    | lst a2 b2 =>
      refine .inr (.inr (.inl ⟨_, _, _, _, rfl, rfl, e _ _ a, e _ _ a2, by rw [b.length, b2.length]; exact hl, fun p hp => ?_⟩))
      exact q _ _ _ (Gr.new e hp) (.lst upd_same ((b.append b2).mono (Ex.new (e.free hp))))
theorem Rps.nil_iff {I : Hp} {vs : List V} {ds : List D} (r : Rps K I vs ds) : vs = [] ↔ ds = [] := by cases r <;> simp
theorem bin_add_tup {xs ys : List D} (hl : xs.length + ys.length ≤ sizeLine) : Bin K (uAdd K) (.tup xs) (.tup ys) (.tup (xs ++ ys)) := fun I H u v e r1 r2 Q q => by
  cases r1 with
  | tup a b =>
    cases r2 with
    | tup a2 b2 =>
      refine .inr (.inr (.inr ⟨_, _, _, _, rfl, rfl, ex_t e a, ex_t e a2, by rw [b.length, b2.length]; exact hl, fun h => ?_, fun _ h => ?_, fun _ _ p hp => ?_⟩))
      · have := b.nil_iff.mp h; subst this
        exact q I H _ (Gr.refl e) (.tup a2 b2)
      · have := b2.nil_iff.mp h; subst this
        rw [List.append_nil] at q
        exact q I H _ (Gr.refl e) (.tup a b)
      · exact q _ _ _ (Gr.new e hp) (.tup (.inl (.inl upd_same)) ((b.append b2).mono (Ex.new (e.free hp))))
theorem bin_sub {i j : Int} : Bin K (rI0 fun i j => .int (i - j)) (.int i) (.int j) (.int (i - j)) := fun I H u v e r1 r2 Q q => by
  cases r1; cases r2
  exact ⟨i, j, rfl, rfl, q I H _ (Gr.refl e) (.int _)⟩
theorem bin_I0 {g : Int → Int → Int} {i j : Int} : Bin K (rI0 fun i j => .int (g i j)) (.int i) (.int j) (.int (g i j)) := fun I H u v e r1 r2 Q q => by
  cases r1; cases r2
  exact ⟨i, j, rfl, rfl, q I H _ (Gr.refl e) (.int _)⟩
theorem bin_I {P : Int → Int → Prop} {g : Int → Int → Int} {i j : Int} (h : P i j) : Bin K (rI P fun i j => .int (g i j)) (.int i) (.int j) (.int (g i j)) := fun I H u v e r1 r2 Q q => by
  cases r1; cases r2
  exact ⟨i, j, rfl, rfl, h, q I H _ (Gr.refl e) (.int _)⟩
theorem bin_mul {i j : Int} (h : i.natAbs.log2 + j.natAbs.log2 < 1000000) : Bin K uMul (.int i) (.int j) (.int (i * j)) := fun I H u v e r1 r2 Q q => by
  cases r1; cases r2
  exact .inl ⟨i, j, rfl, rfl, h, q I H _ (Gr.refl e) (.int _)⟩
theorem bin_rep {xs : List D} {n : Int} (h0 : -(2 ^ 63) ≤ n) (h1 : n < 2 ^ 63) (hl : xs.length * n.toNat ≤ sizeLine) : Bin K uMul (.lst xs) (.int n) (.lst (List.replicate n.toNat xs).flatten) := fun I H u v e r1 r2 Q q => by
  cases r1 with
  | lst a b =>
    cases r2
    refine .inr ⟨_, _, _, rfl, rfl, e _ _ a, h0, h1, by rw [b.length]; exact hl, fun p hp => ?_⟩
    refine q _ _ _ (Gr.new e hp) (.lst upd_same ?_)
    have key : ∀ m : Nat, Rps K I (List.replicate m _).flatten (List.replicate m xs).flatten := fun m => by
      induction m with
      | zero => exact .nil
      | succ m ih => rw [List.replicate_succ, List.replicate_succ, List.flatten_cons, List.flatten_cons]; exact b.append ih
    exact (key n.toNat).mono (Ex.new (e.free hp))
/-! comparisons -/
theorem bin_cmpI {p : Int → Int → Bool} {i j : Int} : Bin K (rI0 fun i j => .bl (p i j)) (.int i) (.int j) (.bl (p i j)) := fun I H u v e r1 r2 Q q => by
  cases r1; cases r2
  exact ⟨i, j, rfl, rfl, q I H _ (Gr.refl e) (.bl _)⟩
theorem bin_eq_int {i j : Int} : Bin K (uEq K) (.int i) (.int j) (.bl (decide (i = j))) := fun I H u v e r1 r2 Q q => by
  cases r1; cases r2
  refine .inl ⟨rfl, ?_⟩
  have : decide (V.int i = V.int j) = decide (i = j) := by simp
  rw [this]; exact q I H _ (Gr.refl e) (.bl _)
theorem bin_eq_str {i j : Str} : Bin K (uEq K) (.str i) (.str j) (.bl (decide (i = j))) := fun I H u v e r1 r2 Q q => by
  cases r1; cases r2
  refine .inl ⟨rfl, ?_⟩
  have : decide (V.str i = V.str j) = decide (i = j) := by simp
  rw [this]; exact q I H _ (Gr.refl e) (.bl _)
theorem bin_eq_bl {i j : Bool} : Bin K (uEq K) (.bl i) (.bl j) (.bl (decide (i = j))) := fun I H u v e r1 r2 Q q => by
  cases r1; cases r2
  refine .inl ⟨rfl, ?_⟩
  have : decide (V.bl i = V.bl j) = decide (i = j) := by simp
  rw [this]; exact q I H _ (Gr.refl e) (.bl _)
theorem bin_ne_int {i j : Int} : Bin K (uNe K) (.int i) (.int j) (.bl (!decide (i = j))) := fun I H u v e r1 r2 Q q => by
  cases r1; cases r2
  refine .inl ⟨rfl, ?_⟩
  have : decide (V.int i = V.int j) = decide (i = j) := by simp
  rw [this]; exact q I H _ (Gr.refl e) (.bl _)
theorem bin_ne_str {i j : Str} : Bin K (uNe K) (.str i) (.str j) (.bl (!decide (i = j))) := fun I H u v e r1 r2 Q q => by
  cases r1; cases r2
  refine .inl ⟨rfl, ?_⟩
  have : decide (V.str i = V.str j) = decide (i = j) := by simp
  rw [this]; exact q I H _ (Gr.refl e) (.bl _)
theorem bin_ne_bl {i j : Bool} : Bin K (uNe K) (.bl i) (.bl j) (.bl (!decide (i = j))) := fun I H u v e r1 r2 Q q => by
  cases r1; cases r2
  refine .inl ⟨rfl, ?_⟩
  have : decide (V.bl i = V.bl j) = decide (i = j) := by simp
  rw [this]; exact q I H _ (Gr.refl e) (.bl _)
/-! data for == at any depth -/
mutual
def toP : D → PyData
  | .non => .none
  | .bl b => .bool b
  | .int i => .int i
  | .str s => .str s
  | .lst ds => .list (toPs ds)
  | .fl ds => .list (toPs ds)
  | .tup ds => .tuple (toPs ds)
  | _ => .none
def toPs : List D → List PyData
  | [] => []
  | d :: ds => toP d :: toPs ds
end
mutual
/-- data that == may be asked of -/
def isP : D → Bool
  | .non => true
  | .bl _ => true
  | .int _ => true
  | .str _ => true
  | .lst ds => isPs ds
  | .fl ds => isPs ds
  | .tup ds => isPs ds
  | _ => false
def isPs : List D → Bool
  | [] => true
  | d :: ds => isP d && isPs ds
end
mutual
theorem dp_of {I : Hp} : ∀ {v : V} {d : D}, Rp K I v d → isP d = true → Dp K I v (toP d)
  | _, _, .non, _ => by rw [toP]; exact .non
  | _, _, .bl b, _ => by rw [toP]; exact .bl b
  | _, _, .int i, _ => by rw [toP]; exact .int i
  | _, _, .str x, _ => by rw [toP]; exact .str x
  | _, _, .lst h r, p => by rw [toP]; exact .lst (.inl (.inl h)) (dps_of r (by simpa [isP] using p))
  | _, _, .fl h r, p => by rw [toP]; exact .lst h (dps_of r (by simpa [isP] using p))
  | _, _, .tup h r, p => by rw [toP]; exact .tup h (dps_of r (by simpa [isP] using p))
  | _, _, .dic _ _ _, p => by simp [isP] at p
  | _, _, .obj _ _ _, p => by simp [isP] at p
  | _, _, .ty _, p => by simp [isP] at p
  | _, _, .ref _, p => by simp [isP] at p
theorem dps_of {I : Hp} : ∀ {vs : List V} {ds : List D}, Rps K I vs ds → isPs ds = true → DpAll K I vs (toPs ds)
  | _, _, .nil, _ => by rw [toPs]; exact .nil
  | _, _, .cons h r, p => by
    rw [isPs, Bool.and_eq_true] at p
    rw [toPs]; exact .cons (dp_of h p.1) (dps_of r p.2)
end
theorem Dp.mono' {I H : Hp} (e : Ex I H) : ∀ {p : PyData} {v : V}, Dp K I v p → Dp K H v p
  | _, _, .non => .non
  | _, _, .bl b => .bl b
  | _, _, .int b => .int b
  | _, _, .str b => .str b
  | _, _, .lst h r => .lst (ex_l e h) (DpAll.mono'' e r)
  | _, _, .tup h r => .tup (ex_t e h) (DpAll.mono'' e r)
where
  DpAll.mono'' {I H : Hp} (e : Ex I H) : ∀ {p : List PyData} {v : List V}, DpAll K I v p → DpAll K H v p
  | _, _, .nil => .nil
  | _, _, .cons h r => .cons (Dp.mono' e h) (DpAll.mono'' e r)

theorem bin_eqD {x y : D} (hx : isP x = true) (hy : isP y = true) (sx : SeqAt.shaped (toP x) = true) (sy : SeqAt.shaped (toP y) = true) : Bin K (uEq K) x y (.bl (PyData.eqv (toP x) (toP y))) := fun I H u v e r1 r2 Q q =>
  .inr (.inl ⟨_, _, Dp.mono' e (dp_of r1 hx), Dp.mono' e (dp_of r2 hy), sx, sy, q I H _ (Gr.refl e) (.bl _)⟩)
theorem bin_eq_di {ks : List Key} {ds : List D} {j : Int} : Bin K (uEq K) (.dic ks ds) (.int j) (.bl false) := fun I H u v e r1 r2 Q q => by
  cases r1 with
  | dic a _ _ =>
    cases r2
    exact .inr (.inr ⟨_, _, j, rfl, e _ _ a, rfl, q I H _ (Gr.refl e) (.bl _)⟩)
theorem bin_neD {x y : D} (hx : isP x = true) (hy : isP y = true) (sx : SeqAt.shaped (toP x) = true) (sy : SeqAt.shaped (toP y) = true) : Bin K (uNe K) x y (.bl (!PyData.eqv (toP x) (toP y))) := fun I H u v e r1 r2 Q q =>
  .inr ⟨_, _, Dp.mono' e (dp_of r1 hx), Dp.mono' e (dp_of r2 hy), sx, sy, q I H _ (Gr.refl e) (.bl _)⟩
/-! in -/
theorem bin_in_sg {c : Nat} {z : Str} : Bin K (uIn K) (.str ⟨#[c]⟩) (.str z) (.bl (decide (c ∈ z.cps.toList))) := fun I H u v e r1 r2 Q q => by
  cases r1; cases r2
  exact .inl ⟨c, z, rfl, rfl, q I H _ (Gr.refl e) (.bl _)⟩
theorem bin_ni_sg {c : Nat} {z : Str} : Bin K (uNi K) (.str ⟨#[c]⟩) (.str z) (.bl (!decide (c ∈ z.cps.toList))) := fun I H u v e r1 r2 Q q => by
  cases r1; cases r2
  exact .inl ⟨c, z, rfl, rfl, q I H _ (Gr.refl e) (.bl _)⟩
def flatD : D → Bool
  | .non => true
  | .bl _ => true
  | .int _ => true
  | .str _ => true
  | _ => false
def toV : D → V
  | .bl b => .bl b
  | .int i => .int i
  | .str s => .str s
  | _ => .non
theorem rp_toV {I : Hp} {v : V} {d : D} (r : Rp K I v d) (f : flatD d = true) : v = toV d ∧ flatV v = true := by
  cases r <;> first | exact ⟨rfl, rfl⟩ | cases f
theorem rps_toV {I : Hp} : ∀ {vs : List V} {ds : List D}, Rps K I vs ds → ds.all flatD = true → vs = ds.map toV ∧ vs.all flatV = true
  | _, _, .nil, _ => ⟨rfl, rfl⟩
  | _, _, .cons h r, f => by
    rw [List.all_cons, Bool.and_eq_true] at f
    obtain ⟨a, b⟩ := rp_toV h f.1
    obtain ⟨c, d⟩ := rps_toV r f.2
    exact ⟨by rw [a, c]; rfl, by rw [List.all_cons, b, d]; rfl⟩
/-- x in xs of flat data -/
def inD (x : D) (xs : List D) : Bool := xs.any fun y => eqV (toV y) (toV x)
theorem inV_eq {x : D} {xs : List D} : inV (toV x) (xs.map toV) = inD x xs := by unfold inV inD; rw [List.any_map]; rfl
theorem bin_in_l {x y : D} {ds : List D} (hl : LD y ds) (hx : flatD x = true) (hf : ds.all flatD = true) : Bin K (uIn K) x y (.bl (inD x ds)) := fun I H u v e r1 r2 Q q => by
  obtain ⟨a, vs, rfl, hs, hr⟩ := r2.l hl
  obtain ⟨rfl, b1⟩ := rp_toV r1 hx
  obtain ⟨rfl, b2⟩ := rps_toV hr hf
  refine .inr ⟨a, _, rfl, .inl (ex_l e hs), b1, b2, ?_⟩
  rw [if_neg Bool.false_ne_true, inV_eq]
  exact q I H _ (Gr.refl e) (.bl _)
theorem bin_ni_l {x y : D} {ds : List D} (hl : LD y ds) (hx : flatD x = true) (hf : ds.all flatD = true) : Bin K (uNi K) x y (.bl (!inD x ds)) := fun I H u v e r1 r2 Q q => by
  obtain ⟨a, vs, rfl, hs, hr⟩ := r2.l hl
  obtain ⟨rfl, b1⟩ := rp_toV r1 hx
  obtain ⟨rfl, b2⟩ := rps_toV hr hf
  refine .inr ⟨a, _, rfl, .inl (ex_l e hs), b1, b2, ?_⟩
  rw [if_pos rfl, inV_eq]
  exact q I H _ (Gr.refl e) (.bl _)
theorem bin_in_t {x : D} {ds : List D} (hx : flatD x = true) (hf : ds.all flatD = true) : Bin K (uIn K) x (.tup ds) (.bl (inD x ds)) := fun I H u v e r1 r2 Q q => by
  cases r2 with
  | tup hs hr =>
    obtain ⟨rfl, b1⟩ := rp_toV r1 hx
    obtain ⟨rfl, b2⟩ := rps_toV hr hf
    refine .inr ⟨_, _, rfl, .inr (ex_t e hs), b1, b2, ?_⟩
    rw [if_neg Bool.false_ne_true, inV_eq]
    exact q I H _ (Gr.refl e) (.bl _)
theorem bin_ni_t {x : D} {ds : List D} (hx : flatD x = true) (hf : ds.all flatD = true) : Bin K (uNi K) x (.tup ds) (.bl (!inD x ds)) := fun I H u v e r1 r2 Q q => by
  cases r2 with
  | tup hs hr =>
    obtain ⟨rfl, b1⟩ := rp_toV r1 hx
    obtain ⟨rfl, b2⟩ := rps_toV hr hf
    refine .inr ⟨_, _, rfl, .inr (ex_t e hs), b1, b2, ?_⟩
    rw [if_pos rfl, inV_eq]
    exact q I H _ (Gr.refl e) (.bl _)
/-! items -/
theorem rps_at {I : Hp} {vs : List V} {ds : List D} {i : Int} {d : D} (r : Rps K I vs ds) (h : atI ds i = some d) : ∃ v, atI vs i = some v ∧ Rp K I v d := by
  unfold atI at h ⊢
  rw [r.length]
  cases hx : ixN ds.length i with
  | none => rw [hx] at h; cases h
  | some j =>
    rw [hx] at h
    exact r.get (i := j) h
theorem bin_ix_l {x d : D} {ds : List D} {i : Int} (hl : LD x ds) (h : atI ds i = some d) : Bin K (rIx K) x (.int i) d := fun I H u v e r1 r2 Q q => by
  obtain ⟨a, vs, rfl, hs, hr⟩ := r1.l hl
  cases r2
  obtain ⟨w, hw, rw'⟩ := rps_at hr h
  exact .inl ⟨a, vs, i, w, rfl, rfl, ex_l e hs, hw, q I H _ (Gr.refl e) rw'⟩
theorem bin_ix_t {d : D} {ds : List D} {i : Int} (h : atI ds i = some d) : Bin K (rIx K) (.tup ds) (.int i) d := fun I H u v e r1 r2 Q q => by
  cases r1 with
  | tup hs hr =>
    cases r2
    obtain ⟨w, hw, rw'⟩ := rps_at hr h
    exact .inr (.inl ⟨_, _, i, w, rfl, rfl, ex_t e hs, hw, q I H _ (Gr.refl e) rw'⟩)
theorem bin_ix_s {z : Str} {c : Nat} {i : Int} (hl : z.length ≤ sizeLine) (h : atI z.cps.toList i = some c) : Bin K (rIx K) (.str z) (.int i) (.str ⟨#[c]⟩) := fun I H u v e r1 r2 Q q => by
  cases r1; cases r2
  exact .inr (.inr ⟨z, i, c, rfl, rfl, hl, h, q I H _ (Gr.refl e) (.str _)⟩)
/-- an item of a list that may change -/
theorem e_ixC {ta tb : TE} {ds : List D} {i : Int} {d : D} (ha : C K Γ ta ds) (hb : E K Γ tb (.int i)) (h : atI ds i = some d) : E K Γ (tOp (rIx K) ta tb) d := fun I σ H as e l Q q =>
  ha I σ H as e l _ fun I1 H1 a vs g1 hs r1 => hb I1 σ H1 as g1.ih (l.mono g1) _ fun I2 H2 w g2 r2 => by
    cases r2
    obtain ⟨w, hw, rw'⟩ := rps_at r1 h
    exact .inl ⟨a, vs, i, w, rfl, rfl, ex_l g2.ex hs, hw, q I2 H2 w (g1.trans g2) (rw'.mono g2.i)⟩
/-! slices -/
def cutD (xs : List D) (lo hi : Option Int) : List D := (xs.drop (HT.sIx xs.length 0 lo)).take (HT.sIx xs.length xs.length hi - HT.sIx xs.length 0 lo)
theorem rps_cut {I : Hp} {vs : List V} {ds : List D} {lo hi : Option Int} (r : Rps K I vs ds) : Rps K I (cutV vs lo hi) (cutD ds lo hi) := by
  unfold cutV cutD
  rw [r.length]
  exact (r.drop _).take _
theorem eo_none : EO K Γ tNoPart none := fun I σ H as e l Q q => q I H (Gr.refl e)
theorem eo_some {te : TE} {i : Int} (h : E K Γ te (.int i)) : EO K Γ (tPart te) (some i) := fun I σ H as e l Q q => h I σ H as e l _ fun I1 H1 v g1 r1 => by
  cases r1
  exact ⟨i, rfl, q I1 H1 g1⟩
theorem e_slC {te : TE} {tl th : TO} {ds : List D} {lo hi : Option Int} (h : C K Γ te ds) (h1 : EO K Γ tl lo) (h2 : EO K Γ th hi) : E K Γ (tSl (uSl K) te tl th) (.lst (cutD ds lo hi)) := fun I σ H as e l Q q =>
  h I σ H as e l _ fun I1 H1 a vs g1 hs r1 => h1 I1 σ H1 as g1.ih (l.mono g1) _ fun I2 H2 g2 => h2 I2 σ H2 as g2.ih (l.mono (g1.trans g2)) _ fun I3 H3 g3 => by
    refine .inl ⟨a, vs, rfl, ex_l (g2.trans g3).ex hs, fun p hp => ?_⟩
    have g := (g1.trans g2).trans g3
    exact q _ _ _ (g.trans (Gr.new g.ih hp)) (.lst upd_same ((rps_cut (r1.mono (g2.trans g3).i)).mono (Ex.new (g.ih.free hp))))
theorem e_sl_l {te : TE} {tl th : TO} {d : D} {ds : List D} {lo hi : Option Int} (h : E K Γ te d) (hl : LD d ds) (h1 : EO K Γ tl lo) (h2 : EO K Γ th hi) : E K Γ (tSl (uSl K) te tl th) (.lst (cutD ds lo hi)) := e_slC (h.c hl) h1 h2
theorem e_sl_s {te : TE} {tl th : TO} {z : Str} {lo hi : Option Int} (h : E K Γ te (.str z)) (h1 : EO K Γ tl lo) (h2 : EO K Γ th hi) (hl : z.length ≤ sizeLine) : E K Γ (tSl (uSl K) te tl th) (.str (cutS z lo hi)) := fun I σ H as e l Q q =>
  h I σ H as e l _ fun I1 H1 v g1 r1 => h1 I1 σ H1 as g1.ih (l.mono g1) _ fun I2 H2 g2 => h2 I2 σ H2 as g2.ih (l.mono (g1.trans g2)) _ fun I3 H3 g3 => by
    cases r1
    exact .inr (.inr ⟨z, rfl, hl, q I3 H3 _ ((g1.trans g2).trans g3) (.str _)⟩)
theorem e_sl_t {te : TE} {tl th : TO} {ds : List D} {lo hi : Option Int} (h : E K Γ te (.tup ds)) (h1 : EO K Γ tl lo) (h2 : EO K Γ th hi) : E K Γ (tSl (uSl K) te tl th) (.tup (cutD ds lo hi)) := fun I σ H as e l Q q =>
  h I σ H as e l _ fun I1 H1 v g1 r1 => h1 I1 σ H1 as g1.ih (l.mono g1) _ fun I2 H2 g2 => h2 I2 σ H2 as g2.ih (l.mono (g1.trans g2)) _ fun I3 H3 g3 => by
    cases r1 with
    | @tup a vs _ hs hr =>
      have g := (g1.trans g2).trans g3
      have hs3 := ex_t (g2.trans g3).i hs
      have hr3 := hr.mono (g2.trans g3).i
      refine .inr (.inl ⟨a, vs, rfl, ex_t g3.ih hs3, fun hw => ?_, fun _ p hp => ?_⟩)
      · have : cutD ds lo hi = ds := by
          unfold cutD
          rw [← hr.length, hw.1, hw.2, List.drop_zero, Nat.sub_zero, hr.length]
          exact List.take_length
        rw [this] at q
        exact q I3 H3 _ g (.tup hs3 hr3)
      · exact q _ _ _ (g.trans (Gr.new g.ih hp)) (.tup (.inl (.inl upd_same)) ((rps_cut hr3).mono (Ex.new (g.ih.free hp))))
/-! built-in functions -/
theorem ca_len_s {z : Str} (hl : z.length ≤ sizeLine) : Ca K (uLen K) [.str z] (.int z.length) := fun I H us e r Q q => by
  cases r with
  | cons a b =>
    cases b; cases a
    exact .inl ⟨_, z.length, rfl, ⟨hl, rfl⟩, q I H _ (Gr.refl e) (.int _)⟩
theorem ca_len_l {d : D} {ds : List D} (hl : LD d ds) : Ca K (uLen K) [d] (.int ds.length) := fun I H us e r Q q => by
  cases r with
  | cons a b =>
    cases b
    obtain ⟨a, vs, rfl, hs, hr⟩ := a.l hl
    exact .inl ⟨_, ds.length, rfl, .inl ⟨vs, ex_l e hs, hr.length.symm⟩, q I H _ (Gr.refl e) (.int _)⟩
theorem ca_len_t {ds : List D} : Ca K (uLen K) [.tup ds] (.int ds.length) := fun I H us e r Q q => by
  cases r with
  | cons a b =>
    cases b
    cases a with
    | tup hs hr => exact .inl ⟨_, ds.length, rfl, .inr ⟨_, ex_t e hs, hr.length.symm⟩, q I H _ (Gr.refl e) (.int _)⟩
theorem ca_len_d {ks : List Key} {ds : List D} : Ca K (uLen K) [.dic ks ds] (.int ks.length) := fun I H us e r Q q => by
  cases r with
  | cons a b =>
    cases b
    cases a with
    | @dic _ _ vs _ h1 h2 h3 =>
      refine .inr ⟨_, _, rfl, e _ _ h1, ?_⟩
      have : (ks.zip vs).length = ks.length := by rw [List.length_zip, ← h2]; omega
      rw [this]
      exact q I H _ (Gr.refl e) (.int _)
theorem e_lenC {te : TE} {ds : List D} (h : C K Γ te ds) : E K Γ (tCB (uLen K) (tCons te tNil)) (.int ds.length) := fun I σ H as e l Q q =>
  h I σ H as e l _ fun I1 H1 a vs g1 hs r1 => .inl ⟨_, ds.length, rfl, .inl ⟨vs, hs, r1.length.symm⟩, q I1 H1 _ g1 (.int _)⟩
theorem ca_all {d : D} {bs : List Bool} (hl : LD d (bs.map D.bl)) : Ca K (rAll K) [d] (.bl (bs.all id)) := fun I H us e r Q q => by
  cases r with
  | cons a b =>
    cases b
    obtain ⟨p, vs, rfl, hs, hr⟩ := a.l hl
    rw [rps_bls hr] at hs
    exact ⟨p, bs, rfl, ex_l e hs, q I H _ (Gr.refl e) (.bl _)⟩
theorem ca_any {d : D} {bs : List Bool} (hl : LD d (bs.map D.bl)) : Ca K (rAny K) [d] (.bl (bs.any id)) := fun I H us e r Q q => by
  cases r with
  | cons a b =>
    cases b
    obtain ⟨p, vs, rfl, hs, hr⟩ := a.l hl
    rw [rps_bls hr] at hs
    exact ⟨p, bs, rfl, ex_l e hs, q I H _ (Gr.refl e) (.bl _)⟩
theorem ca_max2 {i j : Int} : Ca K (fun xs H Q => ∃ i j, xs = [.int i, .int j] ∧ Q (.int (if j > i then j else i)) H) [.int i, .int j] (.int (if j > i then j else i)) := fun I H us e r Q q => by
  cases r with
  | cons a b =>
    cases a
    cases b with
    | cons b c =>
      cases b; cases c
      exact ⟨i, j, rfl, q I H _ (Gr.refl e) (.int _)⟩
theorem ca_min2 {i j : Int} : Ca K (fun xs H Q => ∃ i j, xs = [.int i, .int j] ∧ Q (.int (if j < i then j else i)) H) [.int i, .int j] (.int (if j < i then j else i)) := fun I H us e r Q q => by
  cases r with
  | cons a b =>
    cases a
    cases b with
    | cons b c =>
      cases b; cases c
      exact ⟨i, j, rfl, q I H _ (Gr.refl e) (.int _)⟩
/-- the built-in class of data -/
def tyD : D → String
  | .non => "NoneType"
  | .bl _ => "bool"
  | .int _ => "int"
  | .str _ => "str"
  | .lst _ => "list"
  | .fl _ => "list"
  | .tup _ => "tuple"
  | .dic _ _ => "dict"
  | _ => "?"
theorem tyx_of {I H : Hp} {v : V} {d : D} (e : Ex I H) (r : Rp K I v d) (h : tyD d ≠ "?") : TyX K H v (.type (tyD d)) := by
  cases r with
  | non => exact .base .non
  | bl b => exact .base (.bl b)
  | int b => exact .base (.int b)
  | str b => exact .base (.str b)
  | lst a r => exact .base (.lst (e _ _ a))
  | fl a r =>
    rcases a with (a | ⟨o, a⟩) | ⟨o, its, n, h1, h2, _⟩
    · exact .base (.lst (e _ _ a))
    · exact .base (.frz (e _ _ a))
    · exact .kList h1 h2
  | tup a r =>
    rcases a with (a | ⟨o, a⟩) | ⟨o, its, n, h1, h2, _⟩
    · exact .base (.tup (e _ _ a))
    · exact .fTuple (e _ _ a)
    · exact .kTuple h1 h2
  | dic a => exact .base (.dK (e _ _ a))
  | _ => exact absurd rfl h
theorem ca_isi {d : D} {n : String} {b : Bool} (h : tyD d ≠ "?") (hk : kitB (tyD d) n = some b) : Ca K (rIsi K) [d, .ty n] (.bl b) := fun I H us e r Q q => by
  cases r with
  | cons a r =>
    cases r with
    | cons c r =>
      cases r
      cases c
      exact ⟨_, _, _, _, b, rfl, .ty n, tyx_of e a h, kit_ty hk, q I H _ (Gr.refl e) (.bl _)⟩
theorem e_ty {n : String} : E K Γ (tC (.ty n)) (.ty n) := fun I σ H as e _ Q q => q I H _ (Gr.refl e) (.ty n)
theorem un_neg' {i : Int} : Un1 K (rU fun i => .int (-i)) (.int i) (.int (-i)) := fun I H u e r Q q => by
  cases r
  exact ⟨i, rfl, q I H _ (Gr.refl e) (.int _)⟩
/-! texts -/
def rJoin (K : PySem.W.Frag) : V → List V → Hp → VK → Prop := fun x xs H Q => ∃ a p, ∃ ys : List Str, x = .str a ∧ xs = [.ref p] ∧ (SqL K H p (ys.map V.str) ∨ SqT K H p (ys.map V.str)) ∧
      (ys.map (·.length)).sum + ys.length * a.length ≤ 16777216 ∧ Q (.str (Txt.join a ys)) H
theorem e_join {to te : TE} {a : Str} {ys : List Str} (ho : E K Γ to (.str a)) (h : C K Γ te (ys.map D.str)) (hl : (ys.map (·.length)).sum + ys.length * a.length ≤ 16777216) : E K Γ (tM1 (rJoin K) to te) (.str (Txt.join a ys)) := fun I σ H as e l Q q =>
  ho I σ H as e l _ fun I1 H1 v g1 r1 => by
    cases r1
    refine ⟨⟨a, rfl⟩, h I1 σ H1 as g1.ih (l.mono g1) _ fun I2 H2 p vs g2 hs r2 => ?_⟩
    rw [rps_strs r2] at hs
    exact ⟨a, p, ys, rfl, rfl, .inl hs, hl, q I2 H2 _ (g1.trans g2) (.str _)⟩
/-! chains -/
theorem e_chain {r r' : R2} {ta tb tc : TE} {x y z : D} {b b' : Bool} (ha : E K Γ ta x) (hb : E K Γ tb y) (hc : b = true → E K Γ tc z) (h1 : Bin K r x y (.bl b)) (h2 : b = true → Bin K r' y z (.bl b')) : E K Γ (tChain r r' ta tb tc) (.bl (b && b')) := fun I σ H as e l Q q =>
  ha I σ H as e l _ fun I1 H1 u g1 r1 => hb I1 σ H1 as g1.ih (l.mono g1) _ fun I2 H2 v g2 r2 => h1 I2 H2 u v g2.ih (r1.mono g2.i) r2 _ fun I3 H3 w g3 r3 => by
    cases r3
    refine ⟨b, rfl, ?_⟩
    have g := (g1.trans g2).trans g3
    cases b with
    | true =>
      refine hc rfl I3 σ H3 as g.ih (l.mono g) _ fun I4 H4 w g4 r4 => ?_
      exact h2 rfl I4 H4 v w g4.ih (r2.mono (g3.trans g4).i) r4 _ fun I5 H5 x g5 r5 => q I5 H5 x ((g.trans g4).trans g5) r5
    | false => exact q I3 H3 _ g (.bl false)
end
end G

namespace G
open PySem PySem.Spec L2
/-- where a def of the text stands -/
structure DefAt (K : PySem.W.Frag) (mg : Str → Option Value) (x qual : Str) (st : Stmt) (ps : List Str) : Prop where
  ex : ∃ f fd, Fun K x qual st f fd ∧ mg x = some (.ref f) ∧ Binds K fd ps []
/-- a def of the text that keeps a promise -/
structure Callee (P : Program) (w : World) (K : PySem.W.Frag) (mg : Str → Option Value) (base : Heap) (x : Str) (k : Nat) (ps : List Str) (R : List D → D → Prop) : Prop where
  ex : ∃ f fd, FnOk P w K mg base CX0 k f fd ps (spR K R) ∧ mg x = some (.ref f) ∧ PySem.W.keepIn K (.ref f) = true ∧ Binds K fd ps [] ∧ ∃ (oc : Value) (od : Option Addr) (osl : Array (Option Value)), K.lookup f = some ⟨oc, od, .func fd, osl⟩
section
variable {X : Cx} {x : Str} {j k : Nat} {ps : List Str} {R : List D → D → Prop} {p pos : Pos} {e : Expr} {es : List Expr} {t : TA}
theorem pe_callC (c : Callee X.prog X.w X.K X.mg X.base x k ps R) (hr : Room j X.A) (hk : k ≤ j) (hg : Gl X x) (ha : PA X (e :: es) t) (hdb : (x == ("__debug__" : Str)) = false := by decide)
    (he : starEach (e :: es) X.env = (false, eval e X.env) :: starEach es X.env := by rfl) (hpl : (backTo pos (starEach es X.env)).any (·.1) = false := by rfl) (hx : Passes CX0 X E0 := by exact pass0) :
    PE X (.Call (.Name x p) (e :: es) [] pos) (tCall (spR X.K R) [] E0 t) := by
  obtain ⟨f, fd, F, hm, kp, b, _⟩ := c.ex
  exact pe_call F (hr.mono hk) hg hm kp b .nil hx ha hdb he hpl
theorem pe_callC0 (c : Callee X.prog X.w X.K X.mg X.base x k ps R) (hr : Room j X.A) (hk : k ≤ j) (hg : Gl X x) (hdb : (x == ("__debug__" : Str)) = false := by decide) (hx : Passes CX0 X E0 := by exact pass0) :
    PE X (.Call (.Name x p) [] [] pos) (tCall (spR X.K R) [] E0 tNil) := by
  obtain ⟨f, fd, F, hm, kp, b, _⟩ := c.ex
  exact pe_call0 F (hr.mono hk) hg hm kp b .nil hx hdb
/-- a global that holds a value -/
def GlobIs (mg : Str → Option Value) (x : Str) (v : V) : Prop := ∃ u, mg x = some u ∧ RelV v u
theorem pe_gl {v : V} (h : GlobIs X.mg x v) (hg : Gl X x := by rfl) (hd : (x == ("__debug__" : Str)) = false := by decide) : PE X (.Name x pos) (tC v) := by
  obtain ⟨u, hm, r⟩ := h
  exact pe_glob hg hm r hd
end
theorem ok_def {P : Program} {w : World} {K : PySem.W.Frag} {mg : Str → Option Value} {base : Heap} {x qual : Str} {st : Stmt} {N ps : List Str} {k : Nat} {R : List D → D → Prop} (F : DefAt K mg x qual st ps) (S : FnScope N ps (defScope st)) (hn : ∀ ds d, R ds d → ds.length = ps.length)
    (hb : ∀ (f : Addr) (cdv : Value) (A : Around) (outer : List Env) (s : Shared) (H : Hp) (E : XK), Room k (A.deeper (PyProof.Rows.envOfC qual (defScope st) s.heap.objs.size f cdv)) →
      ∃ t, PSs (cxOf CX0 P w K mg base N qual (defScope st) f cdv A outer s H E).nox (defBody st) t ∧ ∀ (I H' : Hp) ds d, R ds d → B ⟨K, I, H', [], fun _ _ _ _ => False⟩ (slots N ds) t { nx := fun _ => d = .non, rt := fun e _ => e = d }) :
    Callee P w K mg base x (k + 1) ps R := by
  obtain ⟨f, fd, F1, hm, b⟩ := F.ex
  obtain ⟨oc, od, kV, doc, pm, an, cdv, ct, osl, rfl, lk, _⟩ := id F1.ex
  exact ⟨f, _, ok_of F1 S hn (hb f), hm, F1.kp, b, oc, od, osl, lk⟩
theorem Callee.fn {P : Program} {w : World} {K : PySem.W.Frag} {mg : Str → Option Value} {base : Heap} {x qual : Str} {st : Stmt} {ps : List Str} {k : Nat} {R : List D → D → Prop} {f : Addr} {fd : FuncData} (C : Callee P w K mg base x k ps R) (F : Fun K x qual st f fd) (hm : mg x = some (.ref f)) : FnOk P w K mg base CX0 k f fd ps (spR K R) := by
  obtain ⟨f', fd', FF, hm', _, _, oc, od, osl, lk⟩ := C.ex
  obtain ⟨oc2, od2, kV, doc, pm, an, cdv, ct, osl2, _, lk2, _⟩ := F.ex
  rw [hm] at hm'
  cases hm'
  rw [lk] at lk2
  cases lk2
  exact FF
def spLaw (K : PySem.W.Frag) : Sp := fun vs H Q _ => ∃ (a : Addr) (ns : List Int), vs = [.ref a] ∧ SqL K H a (ns.map V.int) ∧ ns.length ≤ 63 ∧ ∀ H', Q (.bl true) H'
/-- the law -/
theorem law_fn {P : Program} {w : World} {K : PySem.W.Frag} {mg : Str → Option Value} {base : Heap} {qual : Str} {st : Stmt} {ps : List Str} {k : Nat} {R : List D → D → Prop} {f : Addr} {fd : FuncData} (C : Callee P w K mg base "law" k ps R) (F : Fun K "law" qual st f fd) (hm : mg "law" = some (.ref f))
    (hR : ∀ ns : List Int, ns.length ≤ 63 → R [.fl (ns.map D.int)] (.bl true)) : FnOk P w K mg base CX0 k f fd ps (spLaw K) :=
  (C.fn F hm).imp fun vs H Q E h => by
    obtain ⟨a, ns, rfl, hs, hl, q⟩ := h
    exact ⟨H, [.fl (ns.map D.int)], .bl true, Ex.refl H, .cons (.fl hs rps_of_ints) .nil, hR ns hl, fun I' H' v _ r => by cases r; exact q H'⟩
def uLt : R2 := fun x y H Q => rI0 (fun i j => .bl (decide (i < j))) x y H Q ∨ (∃ i j : Str, x = .str i ∧ y = .str j ∧ Q (.bl (decide (i.cps.toList < j.cps.toList))) H)
theorem op_uLt {X : Cx} : OpR X (compareOp .Lt) uLt := op_or op_lt op_lt_str
def uLe : R2 := fun x y H Q => rI0 (fun i j => .bl (decide (i ≤ j))) x y H Q ∨ (∃ i j : Str, x = .str i ∧ y = .str j ∧ Q (.bl (!decide (j.cps.toList < i.cps.toList))) H)
theorem op_uLe {X : Cx} : OpR X (compareOp .LtE) uLe := op_or op_le op_le_str
def uGt : R2 := fun x y H Q => rI0 (fun i j => .bl (decide (j < i))) x y H Q ∨ (∃ i j : Str, x = .str i ∧ y = .str j ∧ Q (.bl (decide (j.cps.toList < i.cps.toList))) H)
theorem op_uGt {X : Cx} : OpR X (compareOp .Gt) uGt := op_or op_gt op_gt_str
def uGe : R2 := fun x y H Q => rI0 (fun i j => .bl (decide (j ≤ i))) x y H Q ∨ (∃ i j : Str, x = .str i ∧ y = .str j ∧ Q (.bl (!decide (i.cps.toList < j.cps.toList))) H)
theorem op_uGe {X : Cx} : OpR X (compareOp .GtE) uGe := op_or op_ge op_ge_str
section
variable {K : PySem.W.Frag}
theorem bin_lt {i j : Int} : Bin K uLt (.int i) (.int j) (.bl (decide (i < j))) := fun I H u v e r1 r2 Q q => by
  cases r1; cases r2
  exact .inl ⟨i, j, rfl, rfl, q I H _ (Gr.refl e) (.bl _)⟩
theorem bin_le {i j : Int} : Bin K uLe (.int i) (.int j) (.bl (decide (i ≤ j))) := fun I H u v e r1 r2 Q q => by
  cases r1; cases r2
  exact .inl ⟨i, j, rfl, rfl, q I H _ (Gr.refl e) (.bl _)⟩
theorem bin_gt {i j : Int} : Bin K uGt (.int i) (.int j) (.bl (decide (j < i))) := fun I H u v e r1 r2 Q q => by
  cases r1; cases r2
  exact .inl ⟨i, j, rfl, rfl, q I H _ (Gr.refl e) (.bl _)⟩
theorem bin_ge {i j : Int} : Bin K uGe (.int i) (.int j) (.bl (decide (j ≤ i))) := fun I H u v e r1 r2 Q q => by
  cases r1; cases r2
  exact .inl ⟨i, j, rfl, rfl, q I H _ (Gr.refl e) (.bl _)⟩
theorem bin_le_s {i j : Str} : Bin K uLe (.str i) (.str j) (.bl (!decide (j.cps.toList < i.cps.toList))) := fun I H u v e r1 r2 Q q => by
  cases r1; cases r2
  exact .inr ⟨i, j, rfl, rfl, q I H _ (Gr.refl e) (.bl _)⟩
theorem bin_lt_s {i j : Str} : Bin K uLt (.str i) (.str j) (.bl (decide (i.cps.toList < j.cps.toList))) := fun I H u v e r1 r2 Q q => by
  cases r1; cases r2
  exact .inr ⟨i, j, rfl, rfl, q I H _ (Gr.refl e) (.bl _)⟩
theorem bin_isN {d : D} {b : Bool} (h : ∀ I v, Rp K I v d → decide (v = .non) = b) : Bin K (fun x y H Q => y = .non ∧ Q (.bl (decide (x = .non))) H) d .non (.bl b) := fun I H u v e r1 r2 Q q => by
  cases r2
  exact ⟨rfl, by rw [h I u r1]; exact q I H _ (Gr.refl e) (.bl _)⟩
end
end G

namespace G
open PySem PySem.Spec L2
/-! isinstance -/
def isInt : D → Bool
  | .int _ => true
  | .bl _ => true
  | _ => false
def isBool : D → Bool
  | .bl _ => true
  | _ => false
def isStr : D → Bool
  | .str _ => true
  | _ => false
def isLst : D → Bool
  | .lst _ => true
  | .fl _ => true
  | _ => false
def isTup : D → Bool
  | .tup _ => true
  | _ => false
def isDic : D → Bool
  | .dic _ _ => true
  | _ => false
/-- data of a built-in class -/
def plain : D → Bool
  | .obj _ _ _ => false
  | .exn _ _ _ => false
  | .ty _ => false
  | .ref _ => false
  | _ => true
theorem ty_plain {d : D} (h : plain d = true) : tyD d ≠ "?" := by cases d <;> first | (cases h; done) | (simp [tyD])
section
variable {K : PySem.W.Frag} {Γ : Sl}
theorem ca_is_int {d : D} (h : plain d = true) : Ca K (rIsi K) [d, .ty "int"] (.bl (isInt d)) := by
  refine ca_isi (ty_plain h) ?_
  cases d <;> first | (cases h; done) | (simp only [tyD, isInt, isBool, isStr, isLst, isTup, isDic]; decide +kernel)
theorem ca_is_bool {d : D} (h : plain d = true) : Ca K (rIsi K) [d, .ty "bool"] (.bl (isBool d)) := by
  refine ca_isi (ty_plain h) ?_
  cases d <;> first | (cases h; done) | (simp only [tyD, isInt, isBool, isStr, isLst, isTup, isDic]; decide +kernel)
theorem ca_is_str {d : D} (h : plain d = true) : Ca K (rIsi K) [d, .ty "str"] (.bl (isStr d)) := by
  refine ca_isi (ty_plain h) ?_
  cases d <;> first | (cases h; done) | (simp only [tyD, isInt, isBool, isStr, isLst, isTup, isDic]; decide +kernel)
theorem ca_is_lst {d : D} (h : plain d = true) : Ca K (rIsi K) [d, .ty "list"] (.bl (isLst d)) := by
  refine ca_isi (ty_plain h) ?_
  cases d <;> first | (cases h; done) | (simp only [tyD, isInt, isBool, isStr, isLst, isTup, isDic]; decide +kernel)
theorem ca_is_tup {d : D} (h : plain d = true) : Ca K (rIsi K) [d, .ty "tuple"] (.bl (isTup d)) := by
  refine ca_isi (ty_plain h) ?_
  cases d <;> first | (cases h; done) | (simp only [tyD, isInt, isBool, isStr, isLst, isTup, isDic]; decide +kernel)
theorem ca_is_dic {d : D} (h : plain d = true) : Ca K (rIsi K) [d, .ty "dict"] (.bl (isDic d)) := by
  refine ca_isi (ty_plain h) ?_
  cases d <;> first | (cases h; done) | (simp only [tyD, isInt, isBool, isStr, isLst, isTup, isDic]; decide +kernel)
/-! comprehensions without a test, what they give by a function -/
theorem e_lcY {α β : Type} {xs : List α} {em : α → D} {f : α → β} {emb : β → D} {wi : TI} {g : TG} {te : TE} {vs : List Nat} (hs : Src K Γ wi (xs.map em)) (hl : xs.length ≤ 10000000)
    (ht : ∀ (i : Nat) (x : α), xs[i]? = some x → ∃ ws Γ1, Tgt K g (em x) ws (wipeG Γ vs) Γ1 ∧ (∀ j ∈ ws, j ∈ vs) ∧ E K Γ1 te (emb (f x))) : E K Γ (tLc wi g tYes te vs) (.lst ((xs.map f).map emb)) := by
  have := e_lc (p := fun _ => true) (f := fun x => emb (f x)) (tt := tYes) hs hl fun i x hx => by
    obtain ⟨ws, Γ1, a, b, c⟩ := ht i x hx
    exact ⟨ws, Γ1, a, b, t_yes, fun _ => c⟩
  have e : xs.filter (fun _ => true) = xs := List.filter_eq_self.mpr fun _ _ => rfl
  rw [e] at this
  rw [List.map_map]
  exact this
theorem e_lcF {α β : Type} {xs : List α} {em : α → D} {p : α → Bool} {f : α → β} {emb : β → D} {wi : TI} {g : TG} {tt : TT} {te : TE} {vs : List Nat} (hs : Src K Γ wi (xs.map em)) (hl : xs.length ≤ 10000000)
    (ht : ∀ (i : Nat) (x : α), xs[i]? = some x → ∃ ws Γ1, Tgt K g (em x) ws (wipeG Γ vs) Γ1 ∧ (∀ j ∈ ws, j ∈ vs) ∧ T K Γ1 tt (p x) ∧ (p x = true → E K Γ1 te (emb (f x)))) : E K Γ (tLc wi g tt te vs) (.lst (((xs.filter p).map f).map emb)) := by
  have := e_lc (p := p) (f := fun x => emb (f x)) hs hl ht
  rw [List.map_map]
  exact this
theorem src_u_l {te : TE} {d : D} {ds : List D} (h : E K Γ te d) (hl : LD d ds) : Src K Γ (fun σ H R => iList K te σ H R ∨ (fun σ H R => iTup K te σ H R ∨ iStr te σ H R) σ H R) ds := src_or1 (src_list h hl)
theorem src_u_t {te : TE} {ds : List D} (h : E K Γ te (.tup ds)) : Src K Γ (fun σ H R => iList K te σ H R ∨ (fun σ H R => iTup K te σ H R ∨ iStr te σ H R) σ H R) ds := src_or2 (src_or1 (src_tup h))
theorem src_u_s {te : TE} {z : Str} (h : E K Γ te (.str z)) : Src K Γ (fun σ H R => iList K te σ H R ∨ (fun σ H R => iTup K te σ H R ∨ iStr te σ H R) σ H R) (z.cps.toList.map fun c => .str ⟨#[c]⟩) := src_or2 (src_or2 (src_str h))
end

/-! the rules with K said ahead -/
section
variable {X : Cx} (K : PySem.W.Frag) (hK : X.K = K := by rfl)
include hK
theorem k_add : OpR X (binaryOp .Add) (uAdd K) := by subst hK; exact op_uAdd
theorem k_eq (hu : X.A.units + 64 < cLine) : OpR X (compareOp .Eq) (uEq K) := by subst hK; exact op_uEq hu
theorem k_ne (hu : X.A.units + 64 < cLine) : OpR X (compareOp .NotEq) (uNe K) := by subst hK; exact op_uNe hu
theorem k_in : OpR X (compareOp .In) (uIn K) := by subst hK; exact op_uIn
theorem k_ni : OpR X (compareOp .NotIn) (uNi K) := by subst hK; exact op_uNi
theorem k_sl : SlR X (uSl K) := by subst hK; exact sl_u
theorem k_ix : IxR X (rIx K) := by subst hK; exact ix_seq
theorem k_len : CallR X (.builtin "len") (uLen K) := by subst hK; exact cr_uLen
theorem k_isi : CallR X (.builtin "isinstance") (rIsi K) := by subst hK; exact call_isi
theorem k_all (hc : X.calm = true) : CallR X (.builtin "all") (rAll K) := by subst hK; exact cr_all hc
theorem k_any (hc : X.calm = true) : CallR X (.builtin "any") (rAny K) := by subst hK; exact cr_any hc
theorem k_sum (hc : X.calm = true) : CallR X (.builtin "sum") (rSum K) := by subst hK; exact cr_sum hc
theorem k_it {tg e : Expr} {te : TE} (he : PE X e te) : PI X tg e (fun σ H R => iList K te σ H R ∨ (fun σ H R => iTup K te σ H R ∨ iStr te σ H R) σ H R) := by subst hK; exact pi_u he
theorem k_enum {e : Expr} {ta : TA} {p pos tpos : Pos} {elts : List Expr} {kk : Nat} (hg : Gl X "enumerate") (hm : X.mg "enumerate" = none) (ha : PA X [e] ta) (hs : starEach [e] X.env = [(false, eval e X.env)] := by rfl) :
    PI X (.Tuple elts kk tpos) (.Call (.Name "enumerate" p) [e] [] pos) (iEnum K ta) := by subst hK; exact pi_enum hg hm ha hs
theorem k_zip {e e2 : Expr} {ta : TA} {p pos tpos : Pos} {elts : List Expr} {kk : Nat} (hg : Gl X "zip") (hm : X.mg "zip" = none) (ha : PA X [e, e2] ta)
    (hs : starEach [e, e2] X.env = (false, eval e X.env) :: starEach [e2] X.env := by rfl) (hpl : (backTo pos (starEach [e2] X.env)).any (·.1) = false := by rfl) :
    PI X (.Tuple elts kk tpos) (.Call (.Name "zip" p) [e, e2] [] pos) (iZip K ta) := by subst hK; exact pi_zip hg hm ha hs hpl
theorem k_reversed {tg e : Expr} {ta : TA} {p pos : Pos} (hg : Gl X "reversed") (hm : X.mg "reversed" = none) (ha : PA X [e] ta) (hs : starEach [e] X.env = [(false, eval e X.env)] := by rfl) : PI X tg (.Call (.Name "reversed" p) [e] [] pos) (iRev K ta) := by subst hK; exact pi_reversed hg hm ha hs
theorem k_tup {es : List Expr} {k : Nat} {t : TGs} {n : Nat} {pos : Pos} (hc : X.calm = true) (h : PGs X es t)
    (hn : (assignEach es X.env).length = n := by rfl) (hst : (assignEach es X.env).findIdx? (·.1) = none := by rfl) : PG X (.Tuple es k pos) (gTup K n t) := by subst hK; exact pg_tup hc h hn hst
theorem k_join {o e : Expr} {to te : TE} {apos pos : Pos} (ho : PE X o to) (he : PE X e te) (hs : starEach [e] X.env = [(false, eval e X.env)] := by rfl) (hbase : attributeBase o "join" X.env (eval o X.env) = eval o X.env := by rfl) (hline : (apos.endLine == pos.line) = true := by rfl) :
    PE X (.Call (.Attribute o "join" apos) [e] [] pos) (tM1 (rJoin K) to te) := by subst hK; exact pe_join ho he hs hbase hline
theorem k_bm {T : String} {name : Str} {id : String} {r : V → List V → Hp → VK → Prop} {o e : Expr} {es : List Expr} {to : TE} {t : TA} {apos cpos : Pos} (pa : PlainAttrs T) (slot : Slot T name id) (hty : typeOf (.builtin id) = pure (.type "method_descriptor")) (hm : MtR X id r) (ho : PE X o to) (ha : PA X (e :: es) t)
    (hbase : attributeBase o name X.env (eval o X.env) = eval o X.env := by rfl)
    (hfew : ((backTo cpos (starEach (e :: es) X.env)).all (fun x => !x.1) && (backToKw cpos (keywordEach [] X.env)).all (fun x => x.1.isSome)
      && decide ((e :: es).length + ([] : List Keyword).length + (if ([] : List Keyword).isEmpty then 0 else 1) < 30)) = true := by rfl)
    (hline : (apos.endLine == cpos.line) = true := by rfl) (hst : starEach (e :: es) X.env = (false, eval e X.env) :: starEach es X.env := by rfl) (hpl : (backTo cpos (starEach es X.env)).any (·.1) = false := by rfl) :
    PE X (.Call (.Attribute o name apos) (e :: es) [] cpos) (tBM K T r to t) := by subst hK; exact pe_bm pa slot hty hm ho ha hbase hfew hline hst hpl
theorem k_bm0 {T : String} {name : Str} {id : String} {r : V → List V → Hp → VK → Prop} {o : Expr} {to : TE} {apos cpos : Pos} (pa : PlainAttrs T) (slot : Slot T name id) (hty : typeOf (.builtin id) = pure (.type "method_descriptor")) (hm : MtR X id r) (ho : PE X o to)
    (hbase : attributeBase o name X.env (eval o X.env) = eval o X.env := by rfl) (hline : (apos.endLine == cpos.line) = true := by rfl) : PE X (.Call (.Attribute o name apos) [] [] cpos) (tBM0 K T r to) := by subst hK; exact pe_bm0 pa slot hty hm ho hbase hline
end
section
variable {X : Cx} {P : Program} {w : World} (K : PySem.W.Frag) {mg : Str → Option Value} {base : Heap} {x : Str} {j k : Nat} {ps : List Str} {R : List D → D → Prop} {p pos : Pos} {e : Expr} {es : List Expr} {t : TA}
theorem k_call (c : Callee P w K mg base x k ps R) (hr : Room j X.A) (hk : k ≤ j) (hg : Gl X x) (ha : PA X (e :: es) t) (hdb : (x == ("__debug__" : Str)) = false := by decide)
    (he : starEach (e :: es) X.env = (false, eval e X.env) :: starEach es X.env := by rfl) (hpl : (backTo pos (starEach es X.env)).any (·.1) = false := by rfl) (hx : Passes CX0 X E0 := by exact pass0)
    (hX : X.prog = P ∧ X.w = w ∧ X.K = K ∧ X.mg = mg ∧ X.base = base := by exact ⟨rfl, rfl, rfl, rfl, rfl⟩) :
    PE X (.Call (.Name x p) (e :: es) [] pos) (tCall (spR K R) [] E0 t) := by
  obtain ⟨rfl, rfl, rfl, rfl, rfl⟩ := hX
  exact pe_callC c hr hk hg ha hdb he hpl hx
theorem k_call0 (c : Callee P w K mg base x k ps R) (hr : Room j X.A) (hk : k ≤ j) (hg : Gl X x) (hdb : (x == ("__debug__" : Str)) = false := by decide) (hx : Passes CX0 X E0 := by exact pass0)
    (hX : X.prog = P ∧ X.w = w ∧ X.K = K ∧ X.mg = mg ∧ X.base = base := by exact ⟨rfl, rfl, rfl, rfl, rfl⟩) :
    PE X (.Call (.Name x p) [] [] pos) (tCall (spR K R) [] E0 tNil) := by
  obtain ⟨rfl, rfl, rfl, rfl, rfl⟩ := hX
  exact pe_callC0 c hr hk hg hdb hx
end
end G

namespace G
open PySem PySem.Spec L2
section
variable {K : PySem.W.Frag} {Γ : Sl} {c : Cz} {κ : Ks}
theorem bin_mod {i j : Int} (h : 0 < j) : Bin K (rI (fun _ j => j ≠ 0) fun i j => .int (i.fmod j)) (.int i) (.int j) (.int (i % j)) := by
  have e : i.fmod j = i % j := Int.fmod_eq_emod_of_nonneg i (Int.le_of_lt h)
  rw [← e]
  exact bin_I (g := fun i j => i.fmod j) (by omega)
theorem bin_div {i j : Int} (h : 0 < j) (hj : j < 2 ^ 64) : Bin K (rI CDivW fun i j => .int (i / j)) (.int i) (.int j) (.int (i / j)) := by
  refine bin_I (g := fun i j => i / j) ⟨h, ?_⟩
  have h2 : j.natAbs < 2 ^ 64 := by omega
  have h3 : j.natAbs ≠ 0 := by omega
  exact Nat.lt_trans ((Nat.log2_lt h3).mpr h2) (by decide)
theorem log2_64 {n : Nat} (h : n < 2 ^ 64) : n.log2 < 64 := by
  by_cases z : n = 0
  · subst z; decide
  · exact (Nat.log2_lt z).mpr h
theorem mul_ok {i j : Int} (hi : -(2 ^ 64) < i ∧ i < 2 ^ 64) (hj : -(2 ^ 64) < j ∧ j < 2 ^ 64) : i.natAbs.log2 + j.natAbs.log2 < 1000000 := by
  have a := log2_64 (n := i.natAbs) (by omega)
  have b := log2_64 (n := j.natAbs) (by omega)
  omega
theorem bin_mul64 {i j : Int} (hi : -(2 ^ 64) < i ∧ i < 2 ^ 64) (hj : -(2 ^ 64) < j ∧ j < 2 ^ 64) : Bin K uMul (.int i) (.int j) (.int (i * j)) := bin_mul (mul_ok hi hj)
theorem bin_pow {i j r : Int} (h : 0 ≤ j ∧ j ≤ 1000000 ∧ i.natAbs < 2 ^ 64) (e : i ^ j.toNat = r) : Bin K (rI CPow fun i j => .int (i ^ j.toNat)) (.int i) (.int j) (.int r) := by
  subst e
  exact bin_I (g := fun i j => i ^ j.toNat) h
theorem atI_nat' {α : Type} {xs : List α} {i : Int} {n : Nat} {x : α} (hi : i = n) (h : xs[n]? = some x) : atI xs i = some x := by
  rw [hi]; exact atI_nat h
theorem atI_get {α : Type} {xs : List α} {i : Int} (h0 : 0 ≤ i) (h1 : i < xs.length) : atI xs i = some (xs[i.toNat]'(by omega)) :=
  atI_nat' (n := i.toNat) (by omega) (List.getElem?_eq_getElem (by omega))
theorem atI_getD {α : Type} {xs : List α} {i : Int} (d : α) (h0 : 0 ≤ i) (h1 : i < xs.length) : atI xs i = some (xs.getD i.toNat d) := by
  refine atI_nat' (n := i.toNat) (by omega) ?_
  rw [List.getD_eq_getElem?_getD, List.getElem?_eq_getElem (by omega)]
  rfl
theorem sIx0 (n : Nat) : HT.sIx n 0 none = 0 := rfl
theorem sIxN (n d : Nat) : HT.sIx n d none = d := rfl
theorem sIxI {n d : Nat} {i : Int} (h : 0 ≤ i) : HT.sIx n d (some i) = min i.toNat n := by
  unfold HT.sIx
  simp only
  rw [if_neg (by omega)]
/-- the slots as they are written -/
theorem b_show {ts : TS} {Γ' : Sl} (e : Γ = Γ') (h : B c Γ' ts κ) : B c Γ ts κ := e ▸ h
/-- a def whose end is told -/
theorem b_ret_is {te : TE} {d e : D} (h : E c.K Γ te d) (h2 : d = e) (k : κ.rt e Γ) : B c Γ (tRet te) κ := b_ret (h2 ▸ h) k
end
/-! texts by their codes -/
theorem str_length (s : Str) : s.length = s.cps.toList.length := rfl
theorem app_codes (x y : Str) : (x ++ y).cps.toList = x.cps.toList ++ y.cps.toList := by
  show (x.cps ++ y.cps).toList = _
  exact Array.toList_append
theorem cutS_codes (z : Str) (lo hi : Option Int) : (cutS z lo hi).cps.toList = ((z.cps.toList.drop (HT.sIx z.length 0 lo)).take (HT.sIx z.length z.length hi - HT.sIx z.length 0 lo)) := rfl
/-! a loop that folds -/
section
variable {c : Cz} {Γ : Sl} {κ : Ks}
theorem b_fold {α : Type} {xs : List α} {em : α → D} {wi : TI} {g : TG} {tb : TS} (hs : Src c.K Γ wi (xs.map em)) {S : Type} (step : S → α → S) (P : Nat → S → Prop) (Γf : S → Sl) (s0 : S) (h0 : P 0 s0) (l0 : Le (Γf s0) Γ) (hP : ∀ (i : Nat) (s : S) (x : α), xs[i]? = some x → P i s → P (i + 1) (step s x))
    (ht : ∀ (i : Nat) (s : S) (x : α), xs[i]? = some x → P i s → ∃ ws Γ1, Tgt c.K g (em x) ws (Γf s) Γ1 ∧ B c Γ1 tb ⟨fun Γ' => Le (Γf (step s x)) Γ', κ.rt, fun _ => False, fun Γ' => Le (Γf (step s x)) Γ', κ.ex⟩)
    (hd : P xs.length (xs.foldl step s0) → κ.nx (Γf (xs.foldl step s0))) : B c Γ (tFor wi g tb) κ := by
  refine b_for hs (fun i s => s = (xs.take i).foldl step s0 ∧ P i s) Γf s0 ⟨rfl, h0⟩ l0 ?_ ?_
  · rintro i s d hd ⟨e, p⟩
    rw [List.getElem?_map] at hd
    obtain ⟨x, hx⟩ : ∃ x, xs[i]? = some x := by
      cases hx : xs[i]? with
      | none => rw [hx] at hd; cases hd
      | some x => exact ⟨x, rfl⟩
    rw [hx] at hd
    cases hd
    obtain ⟨ws, Γ1, tg, hb⟩ := ht i s x hx p
    have e2 : step s x = (xs.take (i + 1)).foldl step s0 := by
      rw [List.take_add_one, hx, List.foldl_append, ← e]; rfl
    exact ⟨ws, Γ1, tg, b_ks hb (fun Γ' h => ⟨_, ⟨e2, hP i s x hx p⟩, h⟩) (fun _ _ h => h) (fun _ h => h.elim) (fun Γ' h => ⟨_, ⟨e2, hP i s x hx p⟩, h⟩)⟩
  · rintro s ⟨e, p⟩
    rw [List.length_map] at e p
    rw [List.take_length] at e
    subst e
    exact hd p
/-- a loop that only looks: it leaves (returns) or goes on -/
theorem b_look {α : Type} {xs : List α} {em : α → D} {wi : TI} {g : TG} {tb : TS} (hs : Src c.K Γ wi (xs.map em)) (P : Nat → Prop) (Γf : Sl) (h0 : P 0) (l0 : Le Γf Γ)
    (ht : ∀ (i : Nat) (x : α), xs[i]? = some x → P i → ∃ ws Γ1, Tgt c.K g (em x) ws Γf Γ1 ∧ B c Γ1 tb ⟨fun Γ' => P (i + 1) ∧ Le Γf Γ', κ.rt, fun _ => False, fun Γ' => P (i + 1) ∧ Le Γf Γ', κ.ex⟩)
    (hd : P xs.length → κ.nx Γf) : B c Γ (tFor wi g tb) κ := by
  refine b_for hs (fun i (_ : Unit) => P i) (fun _ => Γf) () h0 l0 ?_ ?_
  · rintro i s d hd p
    rw [List.getElem?_map] at hd
    obtain ⟨x, hx⟩ : ∃ x, xs[i]? = some x := by
      cases hx : xs[i]? with
      | none => rw [hx] at hd; cases hd
      | some x => exact ⟨x, rfl⟩
    rw [hx] at hd
    cases hd
    obtain ⟨ws, Γ1, tg, hb⟩ := ht i x hx p
    exact ⟨ws, Γ1, tg, b_ks hb (fun Γ' h => ⟨(), h.1, h.2⟩) (fun _ _ h => h) (fun _ h => h.elim) (fun Γ' h => ⟨(), h.1, h.2⟩)⟩
  · rintro s p
    rw [List.length_map] at p
    exact hd p
end
/-! dicts written out -/
section
variable {K : PySem.W.Frag} {Γ : Sl}
theorem e_dnew : E K Γ tDNewK (.dic [] []) := fun I σ H as e l Q q => fun p hp => q _ _ _ (Gr.new e hp) (.dic (ks := []) (xs := []) upd_same rfl .nil)
def EP (K : PySem.W.Frag) (Γ : Sl) (trs : List (TE × TE)) (ks : List Key) (ds : List D) : Prop := ∀ (I : Hp) (σ : St) (H : Hp) (as : Nat → Addr), Ex I H → Lo K I σ H as Γ → ∀ Q : List (V × V) → Hp → Prop,
  (∀ I' H' (vs : List V), Gr [] I H I' H' → ks.length = vs.length → Rps K I' vs ds → Q ((ks.zip vs).map fun kv => (kV kv.1, kv.2)) H') → tPairs trs σ H Q
theorem ep_nil : EP K Γ [] [] [] := fun I σ H as e l Q q => q I H [] (Gr.refl e) rfl .nil
theorem ep_str {tk tv : TE} {trs : List (TE × TE)} {s : Str} {d : D} {ks : List Key} {ds : List D} (h1 : E K Γ tk (.str s)) (h2 : E K Γ tv d) (h3 : EP K Γ trs ks ds) : EP K Γ ((tk, tv) :: trs) (.inr s :: ks) (d :: ds) := fun I σ H as e l Q q =>
  h1 I σ H as e l _ fun I1 H1 v g1 r1 => h2 I1 σ H1 as g1.ih (l.mono g1) _ fun I2 H2 w g2 r2 => h3 I2 σ H2 as g2.ih (l.mono (g1.trans g2)) _ fun I3 H3 vs g3 hl r3 => by
    cases r1
    exact q I3 H3 (w :: vs) ((g1.trans g2).trans g3) (by simp [hl]) (.cons (r2.mono g3.i) r3)
theorem ep_int {tk tv : TE} {trs : List (TE × TE)} {s : Int} {d : D} {ks : List Key} {ds : List D} (h1 : E K Γ tk (.int s)) (h2 : E K Γ tv d) (h3 : EP K Γ trs ks ds) : EP K Γ ((tk, tv) :: trs) (.inl s :: ks) (d :: ds) := fun I σ H as e l Q q =>
  h1 I σ H as e l _ fun I1 H1 v g1 r1 => h2 I1 σ H1 as g1.ih (l.mono g1) _ fun I2 H2 w g2 r2 => h3 I2 σ H2 as g2.ih (l.mono (g1.trans g2)) _ fun I3 H3 vs g3 hl r3 => by
    cases r1
    exact q I3 H3 (w :: vs) ((g1.trans g2).trans g3) (by simp [hl]) (.cons (r2.mono g3.i) r3)
theorem putK_app {k : Key} {v : V} : ∀ {kvs : List (Key × V)}, k ∉ kvs.map (·.1) → putK kvs k v = kvs ++ [(k, v)] := fun {kvs} h => by
  refine putK_new _ ?_
  cases e : valV kvs k with
  | none => rfl
  | some u => exact absurd (valV_in e) h
theorem merge_nodup : ∀ (kvs acc : List (Key × V)), ((acc ++ kvs).map (·.1)).Nodup → mergeK acc kvs = acc ++ kvs
  | [], acc, _ => by simp [mergeK]
  | (k, v) :: r, acc, h => by
    have h1 : k ∉ acc.map (·.1) := fun z => by
      rw [List.map_append, List.nodup_append] at h
      exact h.2.2 k z k (by simp) rfl
    show mergeK (putK acc k v) r = _
    rw [putK_app h1, merge_nodup r _ (by simpa using h)]
    simp
theorem e_disp {trs : List (TE × TE)} {ks : List Key} {ds : List D} (h : EP K Γ trs ks ds) (hn : ks.Nodup) (hl : ks.length ≤ 15) : E K Γ (tDisp trs) (.dic ks ds) := fun I σ H as e l Q q => fun p hp => by
  have l1 : Lo K I σ (upd H p (.dK [])) as Γ := l.mono (Gr.junk e hp)
  refine h I σ (upd H p (.dK [])) as (e.trans (Ex.new hp)) l1 _ fun I1 H1 vs g1 hlen r1 => ?_
  have hp1 : H1 p = some (.dK []) := g1.ex _ _ upd_same
  have g : Gr [] I H I1 H1 := (Gr.junk e hp).trans g1
  have n1 : I1 p = none := g1.none_i (e.free hp) (by rw [upd_same]; exact nofun)
  refine ⟨hp1, ks.zip vs, rfl, by rw [List.length_zip]; omega, ?_⟩
  have hk : (ks.zip vs).map (·.1) = ks := by rw [List.map_fst_zip]; omega
  have em : mergeK [] (ks.zip vs) = ks.zip vs := by
    have := merge_nodup (ks.zip vs) [] (by rw [List.nil_append, hk]; exact hn)
    simpa using this
  rw [em]
  refine q _ _ _ ((g.mut n1 (.inl hp)).frz n1 hp upd_same) (.dic upd_same hlen (r1.mono (Ex.new n1)))
end
end G

namespace G
open PySem PySem.Spec L2
def rLo (K : PySem.W.Frag) : List V → Hp → VK → Prop := fun xs H Q => ∃ p ys, xs = [.ref p] ∧ (SqL K H p ys ∨ SqT K H p ys) ∧ ∀ l, H l = none → Q (.ref l) (upd H l (.lst ys))
def rTo (K : PySem.W.Frag) : List V → Hp → VK → Prop := fun xs H Q => ∃ p ys, xs = [.ref p] ∧ ((SqL K H p ys ∧ ∀ l, H l = none → Q (.ref l) (upd H l (.tup ys))) ∨ (SqT K H p ys ∧ Q (.ref p) H))
section
variable {X : Cx} (K : PySem.W.Frag) (hK : X.K = K := by rfl)
include hK
theorem k_list : CallR X (.type "list") (rLo K) := by subst hK; exact call_list_of
theorem k_tuple : CallR X (.type "tuple") (rTo K) := by subst hK; exact call_tuple_of
end
section
variable {K : PySem.W.Frag} {Γ : Sl}
theorem e_listC {te : TE} {ds : List D} (h : C K Γ te ds) : E K Γ (tCB (rLo K) (tCons te tNil)) (.lst ds) := fun I σ H as e l Q q =>
  h I σ H as e l _ fun I1 H1 a vs g1 hs r1 => ⟨a, vs, rfl, .inl hs, fun p hp => q _ _ _ (g1.trans (Gr.new g1.ih hp)) (.lst upd_same (r1.mono (Ex.new (g1.ih.free hp))))⟩
theorem ca_list {d : D} {ds : List D} (hl : LD d ds) : Ca K (rLo K) [d] (.lst ds) := fun I H us e r Q q => by
  cases r with
  | cons a b =>
    cases b
    obtain ⟨p, vs, rfl, hs, hr⟩ := a.l hl
    exact ⟨p, vs, rfl, .inl (ex_l e hs), fun l hp => q _ _ _ (Gr.new e hp) (.lst upd_same (hr.mono (Ex.new (e.free hp))))⟩
theorem ca_list_t {ds : List D} : Ca K (rLo K) [.tup ds] (.lst ds) := fun I H us e r Q q => by
  cases r with
  | cons a b =>
    cases b
    cases a with
    | tup hs hr => exact ⟨_, _, rfl, .inr (ex_t e hs), fun l hp => q _ _ _ (Gr.new e hp) (.lst upd_same (hr.mono (Ex.new (e.free hp))))⟩
theorem ca_tuple {d : D} {ds : List D} (hl : LD d ds) : Ca K (rTo K) [d] (.tup ds) := fun I H us e r Q q => by
  cases r with
  | cons a b =>
    cases b
    obtain ⟨p, vs, rfl, hs, hr⟩ := a.l hl
    exact ⟨p, vs, rfl, .inl ⟨ex_l e hs, fun l hp => q _ _ _ (Gr.new e hp) (.tup (.inl (.inl upd_same)) (hr.mono (Ex.new (e.free hp))))⟩⟩
theorem ca_tuple_t {ds : List D} : Ca K (rTo K) [.tup ds] (.tup ds) := fun I H us e r Q q => by
  cases r with
  | cons a b =>
    cases b
    cases a with
    | tup hs hr => exact ⟨_, _, rfl, .inr ⟨ex_t e hs, q I H _ (Gr.refl e) (.tup hs hr)⟩⟩
/-! data for == -/
def okS (x : Str) : Bool := PyData.strOk x
mutual
def okD : D → Bool
  | .non => true
  | .bl _ => true
  | .int _ => true
  | .str s => okS s
  | .lst ds => okDs ds
  | .fl ds => okDs ds
  | .tup ds => okDs ds
  | _ => false
def okDs : List D → Bool
  | [] => true
  | d :: ds => okD d && okDs ds
end
mutual
def depD : D → Nat
  | .lst ds => depDs ds + 1
  | .fl ds => depDs ds + 1
  | .tup ds => depDs ds + 1
  | _ => 0
def depDs : List D → Nat
  | [] => 0
  | d :: ds => max (depD d) (depDs ds)
end
mutual
theorem okD_isP : ∀ d : D, okD d = true → isP d = true
  | .non, _ => by simp [isP]
  | .bl _, _ => by simp [isP]
  | .int _, _ => by simp [isP]
  | .str _, _ => by simp [isP]
  | .lst ds, h => by rw [isP]; exact okDs_isPs ds (by simpa [okD] using h)
  | .fl ds, h => by rw [isP]; exact okDs_isPs ds (by simpa [okD] using h)
  | .tup ds, h => by rw [isP]; exact okDs_isPs ds (by simpa [okD] using h)
  | .dic _ _, h => by simp [okD] at h
  | .obj _ _ _, h => by simp [okD] at h
  | .ty _, h => by simp [okD] at h
  | .ref _, h => by simp [okD] at h
theorem okDs_isPs : ∀ ds : List D, okDs ds = true → isPs ds = true
  | [], _ => by simp [isPs]
  | d :: ds, h => by
    rw [okDs, Bool.and_eq_true] at h
    rw [isPs, Bool.and_eq_true]
    exact ⟨okD_isP d h.1, okDs_isPs ds h.2⟩
end
mutual
theorem okD_lay : ∀ d : D, okD d = true → (toP d).canLay0 = true ∧ (toP d).depth = depD d
  | .non, _ => by simp [toP, PyData.canLay0, PyData.depth, depD]
  | .bl _, _ => by simp [toP, PyData.canLay0, PyData.depth, depD]
  | .int _, _ => by simp [toP, PyData.canLay0, PyData.depth, depD]
  | .str s, h => by simp [toP, PyData.canLay0, PyData.depth, depD]; simpa [okD, okS] using h
  | .lst ds, h => by have := okDs_lay ds (by simpa [okD] using h); simp [toP, PyData.canLay0, PyData.depth, depD, this]
  | .fl ds, h => by have := okDs_lay ds (by simpa [okD] using h); simp [toP, PyData.canLay0, PyData.depth, depD, this]
  | .tup ds, h => by have := okDs_lay ds (by simpa [okD] using h); simp [toP, PyData.canLay0, PyData.depth, depD, this]
  | .dic _ _, h => by simp [okD] at h
  | .obj _ _ _, h => by simp [okD] at h
  | .ty _, h => by simp [okD] at h
  | .ref _, h => by simp [okD] at h
theorem okDs_lay : ∀ ds : List D, okDs ds = true → PyData.canLayAll0 (toPs ds) = true ∧ PyData.depthAll (toPs ds) = depDs ds
  | [], _ => by simp [toPs, PyData.canLayAll0, PyData.depthAll, depDs]
  | d :: ds, h => by
    rw [okDs, Bool.and_eq_true] at h
    have h1 := okD_lay d h.1
    have h2 := okDs_lay ds h.2
    simp [toPs, PyData.canLayAll0, PyData.depthAll, depDs, h1, h2]
end
theorem shaped_of {d : D} (h : okD d = true) (hd : depD d ≤ 64) : SeqAt.shaped (toP d) = true := by
  have := okD_lay d h
  unfold SeqAt.shaped
  rw [this.1, this.2]
  simpa using hd
/-- Python's == -/
def eqD (x y : D) : Bool := PyData.eqv (toP x) (toP y)
def eqDs (x y : List D) : Bool := PyData.eqvAll (toPs x) (toPs y)
theorem bin_eqG {x y : D} (hx : okD x = true) (hy : okD y = true) (dx : depD x ≤ 64) (dy : depD y ≤ 64) : Bin K (uEq K) x y (.bl (eqD x y)) := bin_eqD (okD_isP x hx) (okD_isP y hy) (shaped_of hx dx) (shaped_of hy dy)
theorem bin_neG {x y : D} (hx : okD x = true) (hy : okD y = true) (dx : depD x ≤ 64) (dy : depD y ≤ 64) : Bin K (uNe K) x y (.bl (!eqD x y)) := bin_neD (okD_isP x hx) (okD_isP y hy) (shaped_of hx dx) (shaped_of hy dy)
theorem eqDs_nil : eqDs [] [] = true := by simp [eqDs, toPs, PyData.eqvAll]
theorem eqDs_cons (x y : D) (xs ys : List D) : eqDs (x :: xs) (y :: ys) = (eqD x y && eqDs xs ys) := by simp [eqDs, eqD, toPs, PyData.eqvAll]
theorem eqDs_nc (y : D) (ys : List D) : eqDs [] (y :: ys) = false := by simp [eqDs, toPs, PyData.eqvAll]
theorem eqDs_cn (y : D) (ys : List D) : eqDs (y :: ys) [] = false := by simp [eqDs, toPs, PyData.eqvAll]
theorem eqD_int (i j : Int) : eqD (.int i) (.int j) = decide (i = j) := by simp [eqD, toP, PyData.eqv]; rfl
theorem eqD_str (i j : Str) : eqD (.str i) (.str j) = decide (i = j) := by
  simp only [eqD, toP, PyData.eqv]
  by_cases h : i = j
  · subst h; simp
  · rw [decide_eq_false h]; exact beq_eq_false_iff_ne.mpr h
theorem eqD_lst (x y : List D) : eqD (.lst x) (.lst y) = eqDs x y := by simp [eqD, toP, PyData.eqv, eqDs]
theorem eqD_tup (x y : List D) : eqD (.tup x) (.tup y) = eqDs x y := by simp [eqD, toP, PyData.eqv, eqDs]
theorem eqDs_map {α : Type} [DecidableEq α] (f : α → D) (h : ∀ a b, eqD (f a) (f b) = decide (a = b)) : ∀ xs ys : List α, eqDs (xs.map f) (ys.map f) = decide (xs = ys)
  | [], [] => by simp [eqDs_nil]
  | [], _ :: _ => by simp [eqDs_nc]
  | _ :: _, [] => by simp [eqDs_cn]
  | x :: xs, y :: ys => by
    rw [List.map_cons, List.map_cons, eqDs_cons, h, eqDs_map f h xs ys]
    by_cases a : x = y <;> by_cases b : xs = ys <;> simp [a, b]
theorem eqDs_strs (xs ys : List Str) : eqDs (xs.map D.str) (ys.map D.str) = decide (xs = ys) := eqDs_map D.str eqD_str xs ys
theorem eqDs_ints (xs ys : List Int) : eqDs (xs.map D.int) (ys.map D.int) = decide (xs = ys) := eqDs_map D.int eqD_int xs ys
theorem okDs_strs {xs : List Str} (h : ∀ x ∈ xs, okS x = true) : okDs (xs.map D.str) = true := by
  induction xs with
  | nil => simp [okDs]
  | cons x xs ih => simp [okDs, okD, h x (by simp)]; exact ih fun y hy => h y (List.mem_cons_of_mem _ hy)
theorem depDs_strs (xs : List Str) : depDs (xs.map D.str) = 0 := by
  induction xs with
  | nil => simp [depDs]
  | cons x xs ih => simp [depDs, depD, ih]
theorem okS_of {x : Str} (h : ∀ c ∈ x.cps.toList, c < 1114112) : okS x = true := by
  unfold okS PyData.strOk
  rw [Array.all_eq_true_iff_forall_mem]
  intro c hc
  simpa using h c (by simpa using hc)
end
end G

namespace G
open PySem PySem.Spec L2
/-! ### going on: te gives some d of which k holds -/
/-- who evaluates: the written part, what is wished of an exception, which exceptions may leave -/
structure Xz where
  K : PySem.W.Frag
  W : WX
  x : Addr → List Str → List D → Prop
/-- no exception leaves -/
abbrev zNo (K : PySem.W.Frag) : Xz := ⟨K, fun _ _ _ _ => False, fun _ _ _ => False⟩
def XOk (z : Xz) (I H : Hp) (σ : St) : Prop := ∀ I' H' C ns ds dx, z.x C ns ds → Gr [] I H I' H' → XdAt z.K I' H' H dx ns ds → z.W (.ref C) (some dx) σ H'
theorem XdAt.back {K : PySem.W.Frag} {I H H0 H1 : Hp} {dx : Addr} {ns : List Str} {ds : List D} (x : XdAt K I H H1 dx ns ds) (e : ∀ a, H0 a ≠ none → H1 a ≠ none) : XdAt K I H H0 dx ns ds :=
  ⟨x.at_, x.ni, by
    cases q : H0 dx with
    | none => rfl
    | some o => exact absurd x.n0 (e dx (by rw [q]; exact nofun))⟩
theorem XOk.mono {z : Xz} {I H I1 H1 : Hp} {σ : St} (h : XOk z I H σ) (g : Gr [] I H I1 H1) : XOk z I1 H1 σ := fun I' H' C ns ds dx hx g' hd => h I' H' C ns ds dx hx (g.trans g') (hd.back g.th)
theorem XOk.no {K : PySem.W.Frag} {I H : Hp} {σ : St} : XOk (zNo K) I H σ := fun _ _ _ _ _ _ h => h.elim
section
variable (z : Xz)
def EN (Γ : Sl) (te : TE) (k : D → Prop) : Prop := ∀ (I : Hp) (σ : St) (H : Hp) (as : Nat → Addr), Ex I H → Lo z.K I σ H as Γ → XOk z I H σ → ∀ Q : VK, (∀ I' H' v d, k d → Gr [] I H I' H' → Rp z.K I' v d → Q v H') → te σ H Q
/-- te gives a list of ds; the list itself may be one that changes -/
def CN (Γ : Sl) (te : TE) (k : List D → Prop) : Prop := ∀ (I : Hp) (σ : St) (H : Hp) (as : Nat → Addr), Ex I H → Lo z.K I σ H as Γ → XOk z I H σ → ∀ Q : VK, (∀ I' H' a vs ds, k ds → Gr [] I H I' H' → SqL z.K H' a vs → Rps z.K I' vs ds → Q (.ref a) H') → te σ H Q
def EAN (Γ : Sl) (ta : TA) (k : List D → Prop) : Prop := ∀ (I : Hp) (σ : St) (H : Hp) (as : Nat → Addr), Ex I H → Lo z.K I σ H as Γ → XOk z I H σ → ∀ Q : List V → Hp → Prop, (∀ I' H' vs ds, k ds → Gr [] I H I' H' → Rps z.K I' vs ds → Q vs H') → ta σ H Q
def TN (Γ : Sl) (tt : TT) (k : Bool → Prop) : Prop := ∀ (I : Hp) (σ : St) (H : Hp) (as : Nat → Addr), Ex I H → Lo z.K I σ H as Γ → XOk z I H σ → ∀ Q : Bool → Hp → Prop, (∀ I' H' b, k b → Gr [] I H I' H' → Q b H') → tt σ H Q
def EON (Γ : Sl) (to : TO) (k : Option Int → Prop) : Prop := ∀ (I : Hp) (σ : St) (H : Hp) (as : Nat → Addr), Ex I H → Lo z.K I σ H as Γ → XOk z I H σ → ∀ Q : Option Int → Hp → Prop, (∀ I' H' o, k o → Gr [] I H I' H' → Q o H') → to σ H Q
def SN (Γ : Sl) (wi : TI) (k : List D → Prop) : Prop := ∀ (I : Hp) (σ : St) (H : Hp) (as : Nat → Addr), Ex I H → Lo z.K I σ H as Γ → XOk z I H σ → ∀ R : It → Hp → Prop, (∀ I' H' J xs, k xs → Gr [] I H I' H' → IsW z.K I' J xs → R J H') → wi σ H R
end
section
variable {ζ : Xz} {K : PySem.W.Frag} {Γ : Sl} {te ta tb : TE} {k k' : D → Prop} {d x y : D} {ds : List D}
theorem E.n (h : E ζ.K Γ te d) (hk : k d) : EN ζ Γ te k := fun I σ H as e l _ Q q => h I σ H as e l Q fun I' H' v g r => q I' H' v d hk g r
theorem EN.imp (h : EN ζ Γ te k) (hk : ∀ d, k d → k' d) : EN ζ Γ te k' := fun I σ H as e l zz Q q => h I σ H as e l zz Q fun I' H' v d hd g r => q I' H' v d (hk d hd) g r
theorem EN.e (h : EN (zNo K) Γ te (fun x => x = d)) : E K Γ te d := fun I σ H as e l Q q => h I σ H as e l XOk.no Q fun I' H' v x hx g r => by subst hx; exact q I' H' v g r
theorem T.n {tt : TT} {b : Bool} {k : Bool → Prop} (h : T ζ.K Γ tt b) (hk : k b) : TN ζ Γ tt k := fun I σ H as e l _ Q q => h I σ H as e l Q fun I' H' g => q I' H' b hk g
theorem TN.t {tt : TT} {b : Bool} (h : TN (zNo K) Γ tt (fun x => x = b)) : T K Γ tt b := fun I σ H as e l Q q => h I σ H as e l XOk.no Q fun I' H' x hx g => by subst hx; exact q I' H' g
theorem C.n {k : List D → Prop} (h : C ζ.K Γ te ds) (hk : k ds) : CN ζ Γ te k := fun I σ H as e l _ Q q => h I σ H as e l Q fun I' H' a vs g hs r => q I' H' a vs ds hk g hs r
theorem Src.n {wi : TI} {k : List D → Prop} (h : Src ζ.K Γ wi ds) (hk : k ds) : SN ζ Γ wi k := fun I σ H as e l _ Q q => h I σ H as e l Q fun I' H' J g w => q I' H' J ds hk g w
theorem en_var {i : Nat} (h : Γ[i]? = some (some (.im d))) (hk : k d) : EN ζ Γ (tVar i) k := (e_var h).n hk
theorem en_int {i : Int} (hk : k (.int i)) : EN ζ Γ (tC (.int i)) k := e_int.n hk
theorem en_str {i : Str} (hk : k (.str i)) : EN ζ Γ (tC (.str i)) k := e_str.n hk
theorem en_bl {i : Bool} (hk : k (.bl i)) : EN ζ Γ (tC (.bl i)) k := e_bl.n hk
theorem en_non (hk : k .non) : EN ζ Γ (tC .non) k := e_non.n hk
theorem en_ty {n : String} (hk : k (.ty n)) : EN ζ Γ (tC (.ty n)) k := e_ty.n hk
/-- a value that stands -/
theorem en_const {v : V} (h : ∀ I, Rp ζ.K I v d) (hk : k d) : EN ζ Γ (tC v) k := fun I σ H as e l zz Q q => q I H v d hk (Gr.refl e) (h I)
theorem en_op {r : R2} (h : EN ζ Γ ta fun x => EN ζ Γ tb fun y => ∃ d, Bin ζ.K r x y d ∧ k d) : EN ζ Γ (tOp r ta tb) k := fun I σ H as e l zz Q q =>
  h I σ H as e l zz _ fun I1 H1 v x h1 g1 r1 => h1 I1 σ H1 as g1.ih (l.mono g1) (zz.mono g1) _ fun I2 H2 w y h2 g2 r2 => by
    obtain ⟨d, hb, hk⟩ := h2
    exact hb I2 H2 v w g2.ih (r1.mono g2.i) r2 Q fun I3 H3 z g3 r3 => q I3 H3 z d hk ((g1.trans g2).trans g3) r3
theorem en_un {r : V → Hp → VK → Prop} (h : EN ζ Γ ta fun x => ∃ d, Un1 ζ.K r x d ∧ k d) : EN ζ Γ (tUn r ta) k := fun I σ H as e l zz Q q =>
  h I σ H as e l zz _ fun I1 H1 v x h1 g1 r1 => by
    obtain ⟨d, hb, hk⟩ := h1
    exact hb I1 H1 v g1.ih r1 Q fun I3 H3 z g3 r3 => q I3 H3 z d hk (g1.trans g3) r3
theorem ean_nil {k : List D → Prop} (hk : k []) : EAN ζ Γ tNil k := fun I σ H as e _ _ Q q => q I H _ [] hk (Gr.refl e) .nil
theorem ean_cons {k : List D → Prop} {tr : TA} (h : EN ζ Γ ta fun x => EAN ζ Γ tr fun xs => k (x :: xs)) : EAN ζ Γ (tCons ta tr) k := fun I σ H as e l zz Q q =>
  h I σ H as e l zz _ fun I1 H1 v x h1 g1 r1 => h1 I1 σ H1 as g1.ih (l.mono g1) (zz.mono g1) _ fun I2 H2 vs xs h2 g2 r2 => q I2 H2 _ _ h2 (g1.trans g2) (.cons (r1.mono g2.i) r2)
theorem en_cb {r : List V → Hp → VK → Prop} {ta : TA} (h : EAN ζ Γ ta fun xs => ∃ d, Ca ζ.K r xs d ∧ k d) : EN ζ Γ (tCB r ta) k := fun I σ H as e l zz Q q =>
  h I σ H as e l zz _ fun I1 H1 v x h1 g1 r1 => by
    obtain ⟨d, hb, hk⟩ := h1
    exact hb I1 H1 v g1.ih r1 Q fun I3 H3 z g3 r3 => q I3 H3 z d hk (g1.trans g3) r3
theorem EA.n {ta : TA} {k : List D → Prop} (h : EA ζ.K Γ ta ds) (hk : k ds) : EAN ζ Γ ta k := fun I σ H as e l _ Q q => h I σ H as e l Q fun I' H' v g r => q I' H' v ds hk g r
theorem EAN.ea {ta : TA} (h : EAN (zNo K) Γ ta (fun x => x = ds)) : EA K Γ ta ds := fun I σ H as e l Q q => h I σ H as e l XOk.no Q fun I' H' v x hx g r => by subst hx; exact q I' H' v g r
theorem en_tup {ta : TA} (h : EAN ζ Γ ta fun xs => xs.length ≤ sizeLine ∧ k (.tup xs)) : EN ζ Γ (tTup ta) k := fun I σ H as e l zz Q q =>
  h I σ H as e l zz _ fun I1 H1 vs ds h1 g1 r1 => ⟨by rw [r1.length]; exact h1.1, fun p hp => q _ _ _ _ h1.2 (g1.trans (Gr.new g1.ih hp)) (.tup (.inl (.inl upd_same)) (r1.mono (Ex.new (g1.ih.free hp))))⟩
theorem en_lst {ta : TA} (h : EAN ζ Γ ta fun xs => xs.length ≤ sizeLine ∧ k (.lst xs)) : EN ζ Γ (tLst ta) k := fun I σ H as e l zz Q q =>
  h I σ H as e l zz _ fun I1 H1 vs ds h1 g1 r1 => ⟨by rw [r1.length]; exact h1.1, fun p hp => q _ _ _ _ h1.2 (g1.trans (Gr.new g1.ih hp)) (.lst upd_same (r1.mono (Ex.new (g1.ih.free hp))))⟩
theorem en_if {t : TT} (h : TN ζ Γ t fun b => (b = true → EN ζ Γ ta k) ∧ (b = false → EN ζ Γ tb k)) : EN ζ Γ (tIf t ta tb) k := fun I σ H as e l zz Q q =>
  h I σ H as e l zz _ fun I1 H1 b h1 g1 => by
    cases b with
    | true => exact h1.1 rfl I1 σ H1 as g1.ih (l.mono g1) (zz.mono g1) Q fun I2 H2 v d hd g2 r2 => q I2 H2 v d hd (g1.trans g2) r2
    | false => exact h1.2 rfl I1 σ H1 as g1.ih (l.mono g1) (zz.mono g1) Q fun I2 H2 v d hd g2 r2 => q I2 H2 v d hd (g1.trans g2) r2
theorem tn_test {k : Bool → Prop} (h : EN ζ Γ te fun d => ∃ b, d = .bl b ∧ k b) : TN ζ Γ (tTest te) k := fun I σ H as e l zz Q q => h I σ H as e l zz _ fun I1 H1 v d hd g1 r1 => by
  obtain ⟨b, rfl, hk⟩ := hd
  cases r1
  exact ⟨b, rfl, q I1 H1 b hk g1⟩
theorem tn_b {k : Bool → Prop} (h : EN ζ Γ te fun d => ∃ b, d = .bl b ∧ k b) : TN ζ Γ (tB te) k := fun I σ H as e l zz Q q => h I σ H as e l zz _ fun I1 H1 v d hd g1 r1 => by
  obtain ⟨b, rfl, hk⟩ := hd
  cases r1
  exact ⟨b, rfl, q I1 H1 b hk g1⟩
theorem tn_not {k : Bool → Prop} {t : TT} (h : TN ζ Γ t fun b => k (!b)) : TN ζ Γ (tNot t) k := fun I σ H as e l zz Q q => h I σ H as e l zz _ fun I1 H1 b hb g1 => q I1 H1 _ hb g1
theorem tn_and {k : Bool → Prop} {t u : TT} (h : TN ζ Γ t fun a => (a = true → TN ζ Γ u k) ∧ (a = false → k false)) : TN ζ Γ (tAnd t u) k := fun I σ H as e l zz Q q => h I σ H as e l zz _ fun I1 H1 a h1 g1 => by
  cases a with
  | true => exact h1.1 rfl I1 σ H1 as g1.ih (l.mono g1) (zz.mono g1) Q fun I2 H2 b hb g2 => q I2 H2 b hb (g1.trans g2)
  | false => exact q I1 H1 false (h1.2 rfl) g1
theorem tn_or {k : Bool → Prop} {t u : TT} (h : TN ζ Γ t fun a => (a = true → k true) ∧ (a = false → TN ζ Γ u k)) : TN ζ Γ (tOr t u) k := fun I σ H as e l zz Q q => h I σ H as e l zz _ fun I1 H1 a h1 g1 => by
  cases a with
  | true => exact q I1 H1 true (h1.1 rfl) g1
  | false => exact h1.2 rfl I1 σ H1 as g1.ih (l.mono g1) (zz.mono g1) Q fun I2 H2 b hb g2 => q I2 H2 b hb (g1.trans g2)
theorem tn_yes {k : Bool → Prop} (h : k true) : TN ζ Γ tYes k := fun I σ H as e l zz Q q => q I H true h (Gr.refl e)
theorem en_andV (h : EN ζ Γ ta fun x => ∃ a, x = .bl a ∧ (a = true → EN ζ Γ tb k) ∧ (a = false → k (.bl false))) : EN ζ Γ (tAndV ta tb) k := fun I σ H as e l zz Q q => h I σ H as e l zz _ fun I1 H1 v x h1 g1 r1 => by
  obtain ⟨a, rfl, ht, hf⟩ := h1
  cases r1
  refine ⟨a, rfl, ?_⟩
  cases a with
  | true => exact ht rfl I1 σ H1 as g1.ih (l.mono g1) (zz.mono g1) Q fun I2 H2 w d hd g2 r2 => q I2 H2 w d hd (g1.trans g2) r2
  | false => exact q I1 H1 _ _ (hf rfl) g1 (.bl false)
theorem en_orV (h : EN ζ Γ ta fun x => ∃ a, x = .bl a ∧ (a = true → k (.bl true)) ∧ (a = false → EN ζ Γ tb k)) : EN ζ Γ (tOrV ta tb) k := fun I σ H as e l zz Q q => h I σ H as e l zz _ fun I1 H1 v x h1 g1 r1 => by
  obtain ⟨a, rfl, ht, hf⟩ := h1
  cases r1
  refine ⟨a, rfl, ?_⟩
  cases a with
  | true => exact q I1 H1 _ _ (ht rfl) g1 (.bl true)
  | false => exact hf rfl I1 σ H1 as g1.ih (l.mono g1) (zz.mono g1) Q fun I2 H2 w d hd g2 r2 => q I2 H2 w d hd (g1.trans g2) r2
theorem en_notV (h : EN ζ Γ ta fun x => ∃ a, x = .bl a ∧ k (.bl (!a))) : EN ζ Γ (tNotV ta) k := fun I σ H as e l zz Q q => h I σ H as e l zz _ fun I1 H1 v x h1 g1 r1 => by
  obtain ⟨a, rfl, hk⟩ := h1
  cases r1
  exact ⟨a, rfl, q I1 H1 _ _ hk g1 (.bl _)⟩
theorem en_chain {r r' : R2} {tc : TE} (h : EN ζ Γ ta fun x => EN ζ Γ tb fun y => ∃ b, Bin ζ.K r x y (.bl b) ∧ (b = true → EN ζ Γ tc fun z => ∃ d, Bin ζ.K r' y z d ∧ k d) ∧ (b = false → k (.bl false))) : EN ζ Γ (tChain r r' ta tb tc) k := fun I σ H as e l zz Q q =>
  h I σ H as e l zz _ fun I1 H1 u x h1 g1 r1 => h1 I1 σ H1 as g1.ih (l.mono g1) (zz.mono g1) _ fun I2 H2 v y h2 g2 r2 => by
    obtain ⟨b, hb, ht, hf⟩ := h2
    refine hb I2 H2 u v g2.ih (r1.mono g2.i) r2 _ fun I3 H3 w g3 r3 => ?_
    cases r3
    refine ⟨b, rfl, ?_⟩
    have g := (g1.trans g2).trans g3
    cases b with
    | true =>
      refine ht rfl I3 σ H3 as g.ih (l.mono g) (zz.mono g) _ fun I4 H4 w z h4 g4 r4 => ?_
      obtain ⟨d, hd, hk⟩ := h4
      exact hd I4 H4 v w g4.ih (r2.mono (g3.trans g4).i) r4 _ fun I5 H5 x g5 r5 => q I5 H5 x d hk ((g.trans g4).trans g5) r5
    | false => exact q I3 H3 _ _ (hf rfl) g (.bl false)
/-! slices, lists that may change -/
theorem cn_var {i : Nat} {k : List D → Prop} (h : Γ[i]? = some (some (.mu (.lst ds)))) (hk : k ds) : CN ζ Γ (tVar i) k := (c_var h).n hk
theorem cn_e {k : List D → Prop} (h : EN ζ Γ te fun d => ∃ ds, LD d ds ∧ k ds) : CN ζ Γ te k := fun I σ H as e l zz Q q => h I σ H as e l zz _ fun I1 H1 v d hd g r => by
  obtain ⟨ds, hl, hk⟩ := hd
  obtain ⟨a, vs, rfl, hs, hr⟩ := r.l hl
  exact q I1 H1 _ _ _ hk g (ex_l g.ih hs) hr
theorem eon_none {k : Option Int → Prop} (h : k none) : EON ζ Γ tNoPart k := fun I σ H as e l zz Q q => q I H none h (Gr.refl e)
theorem eon_some {k : Option Int → Prop} (h : EN ζ Γ te fun d => ∃ i, d = .int i ∧ k (some i)) : EON ζ Γ (tPart te) k := fun I σ H as e l zz Q q => h I σ H as e l zz _ fun I1 H1 v d hd g1 r1 => by
  obtain ⟨i, rfl, hk⟩ := hd
  cases r1
  exact ⟨i, rfl, q I1 H1 _ hk g1⟩
/-- what a slice gives -/
def SlD : D → Option Int → Option Int → D → Prop
  | .lst ds, lo, hi, d => d = .lst (cutD ds lo hi)
  | .fl ds, lo, hi, d => d = .lst (cutD ds lo hi)
  | .tup ds, lo, hi, d => d = .tup (cutD ds lo hi)
  | .str z, lo, hi, d => d = .str (cutS z lo hi) ∧ z.length ≤ sizeLine
  | _, _, _, _ => False
theorem en_sl {tl th : TO} (h : EN ζ Γ te fun x => EON ζ Γ tl fun lo => EON ζ Γ th fun hi => ∃ d, SlD x lo hi d ∧ k d) : EN ζ Γ (tSl (uSl ζ.K) te tl th) k := fun I σ H as e l zz Q q =>
  h I σ H as e l zz _ fun I1 H1 v x h1 g1 r1 => h1 I1 σ H1 as g1.ih (l.mono g1) (zz.mono g1) _ fun I2 H2 lo h2 g2 => h2 I2 σ H2 as g2.ih (l.mono (g1.trans g2)) (zz.mono (g1.trans g2)) _ fun I3 H3 hi h3 g3 => by
    obtain ⟨d, hs, hk⟩ := h3
    have g := (g1.trans g2).trans g3
    have rr := r1.mono (g2.trans g3).i
    have lists : ∀ ds, LD x ds → d = .lst (cutD ds lo hi) → uSl ζ.K v lo hi H3 Q := fun ds hl hd => by
      obtain ⟨a, vs, rfl, hq, hr⟩ := rr.l hl
      subst hd
      exact .inl ⟨a, vs, rfl, ex_l g.ih hq, fun p hp => q _ _ _ _ hk (g.trans (Gr.new g.ih hp)) (.lst upd_same ((rps_cut hr).mono (Ex.new (g.ih.free hp))))⟩
    cases x with
    | lst ds => exact lists ds .lst hs
    | fl ds => exact lists ds .fl hs
    | tup ds =>
      have hd : d = .tup (cutD ds lo hi) := hs
      subst hd
      cases rr with
      | @tup a vs _ hq hr =>
        refine .inr (.inl ⟨a, vs, rfl, ex_t g.ih hq, fun hw => ?_, fun _ p hp => ?_⟩)
        · have e1 : cutD ds lo hi = ds := by
            unfold cutD
            rw [← hr.length, hw.1, hw.2, List.drop_zero, Nat.sub_zero, hr.length]
            exact List.take_length
          rw [e1] at hk
          exact q I3 H3 _ _ hk g (.tup hq hr)
        · exact q _ _ _ _ hk (g.trans (Gr.new g.ih hp)) (.tup (.inl (.inl upd_same)) ((rps_cut hr).mono (Ex.new (g.ih.free hp))))
    | str z =>
      obtain ⟨hd, hz⟩ := (show d = .str (cutS z lo hi) ∧ z.length ≤ sizeLine from hs)
      subst hd
      cases rr
      exact .inr (.inr ⟨z, rfl, hz, q I3 H3 _ _ hk g (.str _)⟩)
    | _ => exact (show False from hs).elim
theorem en_slC {tl th : TO} (h : CN ζ Γ te fun ds => EON ζ Γ tl fun lo => EON ζ Γ th fun hi => k (.lst (cutD ds lo hi))) : EN ζ Γ (tSl (uSl ζ.K) te tl th) k := fun I σ H as e l zz Q q =>
  h I σ H as e l zz _ fun I1 H1 a vs ds h1 g1 hs r1 => h1 I1 σ H1 as g1.ih (l.mono g1) (zz.mono g1) _ fun I2 H2 lo h2 g2 => h2 I2 σ H2 as g2.ih (l.mono (g1.trans g2)) (zz.mono (g1.trans g2)) _ fun I3 H3 hi h3 g3 => by
    refine .inl ⟨a, vs, rfl, ex_l (g2.trans g3).ex hs, fun p hp => ?_⟩
    have g := (g1.trans g2).trans g3
    exact q _ _ _ _ h3 (g.trans (Gr.new g.ih hp)) (.lst upd_same ((rps_cut (r1.mono (g2.trans g3).i)).mono (Ex.new (g.ih.free hp))))
theorem en_ixC (h : CN ζ Γ ta fun ds => EN ζ Γ tb fun y => ∃ i d, y = .int i ∧ atI ds i = some d ∧ k d) : EN ζ Γ (tOp (rIx ζ.K) ta tb) k := fun I σ H as e l zz Q q =>
  h I σ H as e l zz _ fun I1 H1 a vs ds h1 g1 hs r1 => h1 I1 σ H1 as g1.ih (l.mono g1) (zz.mono g1) _ fun I2 H2 w y h2 g2 r2 => by
    obtain ⟨i, d, rfl, hd, hk⟩ := h2
    cases r2
    obtain ⟨w, hw, rw'⟩ := rps_at r1 hd
    exact .inl ⟨a, vs, i, w, rfl, rfl, ex_l g2.ex hs, hw, q I2 H2 w d hk (g1.trans g2) (rw'.mono g2.i)⟩
theorem en_lenC (h : CN ζ Γ te fun ds => k (.int ds.length)) : EN ζ Γ (tCB (uLen ζ.K) (tCons te tNil)) k := fun I σ H as e l zz Q q =>
  h I σ H as e l zz _ fun I1 H1 a vs ds h1 g1 hs r1 => .inl ⟨_, ds.length, rfl, .inl ⟨vs, hs, r1.length.symm⟩, q I1 H1 _ _ h1 g1 (.int _)⟩
theorem en_listC (h : CN ζ Γ te fun ds => k (.lst ds)) : EN ζ Γ (tCB (rLo ζ.K) (tCons te tNil)) k := fun I σ H as e l zz Q q =>
  h I σ H as e l zz _ fun I1 H1 a vs ds h1 g1 hs r1 => ⟨a, vs, rfl, .inl hs, fun p hp => q _ _ _ _ h1 (g1.trans (Gr.new g1.ih hp)) (.lst upd_same (r1.mono (Ex.new (g1.ih.free hp))))⟩
theorem en_tupC (h : CN ζ Γ te fun ds => k (.tup ds)) : EN ζ Γ (tCB (rTo ζ.K) (tCons te tNil)) k := fun I σ H as e l zz Q q =>
  h I σ H as e l zz _ fun I1 H1 a vs ds h1 g1 hs r1 => ⟨a, vs, rfl, .inl ⟨hs, fun p hp => q _ _ _ _ h1 (g1.trans (Gr.new g1.ih hp)) (.tup (.inl (.inl upd_same)) (r1.mono (Ex.new (g1.ih.free hp))))⟩⟩
theorem en_join {to : TE} (h : EN ζ Γ to fun x => ∃ a : Str, x = .str a ∧ CN ζ Γ te fun ds => ∃ (ys : List Str), ds = ys.map D.str ∧ (ys.map (·.length)).sum + ys.length * a.length ≤ 16777216 ∧ k (.str (Txt.join a ys))) : EN ζ Γ (tM1 (rJoin ζ.K) to te) k := fun I σ H as e l zz Q q =>
  h I σ H as e l zz _ fun I1 H1 v x h1 g1 r1 => by
    obtain ⟨a, rfl, h1⟩ := h1
    cases r1
    refine ⟨⟨a, rfl⟩, h1 I1 σ H1 as g1.ih (l.mono g1) (zz.mono g1) _ fun I2 H2 p vs ds h2 g2 hs r2 => ?_⟩
    obtain ⟨ys, rfl, hl, hk⟩ := h2
    rw [rps_strs r2] at hs
    exact ⟨a, p, ys, rfl, rfl, .inl hs, hl, q I2 H2 _ _ hk (g1.trans g2) (.str _)⟩
/-! calls -/
theorem en_callR {R : List D → D → Prop} {EE : XK} {ta : TA} (h : EAN ζ Γ ta fun ds => ∃ d, R ds d ∧ k d) : EN ζ Γ (tCall (spR ζ.K R) [] EE ta) k := fun I σ H as e l zz Q q =>
  h I σ H as e l zz _ fun I1 H1 vs ds h1 g1 r1 => by
    obtain ⟨d, hr, hk⟩ := h1
    exact ⟨I1, ds, d, g1.ih, by rw [List.append_nil]; exact r1, hr, fun I2 H2 v g2 r2 => q I2 H2 v d hk (g1.trans g2) r2⟩
/-- the promise of a def that raises nothing and changes nothing: R arguments result, any such result -/
def spN (K : PySem.W.Frag) (R : List D → D → Prop) : Sp := fun vs H Q _ => ∃ (I : Hp) (ds : List D), Ex I H ∧ Rps K I vs ds ∧ (∃ d, R ds d) ∧ ∀ I' H' v d, R ds d → Gr [] I H I' H' → Rp K I' v d → Q v H'
theorem en_callN {R : List D → D → Prop} {EE : XK} {ta : TA} (h : EAN ζ Γ ta fun ds => (∃ d, R ds d) ∧ ∀ d, R ds d → k d) : EN ζ Γ (tCall (spN ζ.K R) [] EE ta) k := fun I σ H as e l zz Q q =>
  h I σ H as e l zz _ fun I1 H1 vs ds h1 g1 r1 => by
    obtain ⟨hr, hk⟩ := h1
    exact ⟨I1, ds, g1.ih, by rw [List.append_nil]; exact r1, hr, fun I2 H2 v d hd g2 r2 => q I2 H2 v d (hk d hd) (g1.trans g2) r2⟩
/-! what is walked -/
theorem isw_l {v : V} {I I' H' : Hp} {ds : List D} (r : Rp ζ.K I' v d) (hl : LD d ds) : ∃ a vs, v = .ref a ∧ SqL ζ.K I' a vs ∧ IsW ζ.K I' (Itl ζ.K a) ds := by
  obtain ⟨a, vs, rfl, hs, hr⟩ := r.l hl
  exact ⟨a, vs, rfl, hs, isw_at walk_list (fun I2 H2 e1 e2 => ex_l (e1.trans e2) hs) hr⟩
theorem sn_l {w : TI} {kk : List D → Prop} (h : EN ζ Γ te fun d => ∃ ds, LD d ds ∧ kk ds) : SN ζ Γ (fun σ H R => iList ζ.K te σ H R ∨ w σ H R) kk := fun I σ H as e l zz R q => .inl (h I σ H as e l zz _ fun I1 H1 v d hd g r => by
  obtain ⟨ds, hl, hk⟩ := hd
  obtain ⟨a, vs, rfl, hs, hw⟩ := isw_l (I := I) (H' := H1) r hl
  exact ⟨a, rfl, ⟨_, ex_l g.ih hs⟩, q I1 H1 _ ds hk g hw⟩)
theorem sn_t {w w' : TI} {kk : List D → Prop} (h : EN ζ Γ te fun d => ∃ ds, d = .tup ds ∧ kk ds) : SN ζ Γ (fun σ H R => w σ H R ∨ (fun σ H R => iTup ζ.K te σ H R ∨ w' σ H R) σ H R) kk := fun I σ H as e l zz R q => .inr (.inl (h I σ H as e l zz _ fun I1 H1 v d hd g r => by
  obtain ⟨ds, rfl, hk⟩ := hd
  cases r with
  | tup hs hr => exact ⟨_, rfl, ⟨_, ex_t g.ih hs⟩, q I1 H1 _ ds hk g (isw_at walk_tup (fun I2 H2 e1 e2 => ex_t (e1.trans e2) hs) hr)⟩))
theorem isw_s {I : Hp} {z : Str} : IsW ζ.K I (Its z) (z.cps.toList.map fun c => .str ⟨#[c]⟩) := by
  refine ⟨fun _ => True, _, by rw [List.length_map, Array.length_toList]; exact walk_str, fun _ _ _ _ => trivial, ?_⟩
  rintro i H x H' I2 hi ⟨rfl, c, hc, rfl⟩ e1 e2
  refine ⟨I2, .str ⟨#[c]⟩, Gr.refl e2, ?_, .str _⟩
  rw [List.getElem?_map, Array.getElem?_toList, hc]
  rfl
theorem sn_s {w w' : TI} {kk : List D → Prop} (h : EN ζ Γ te fun d => ∃ z : Str, d = .str z ∧ kk (z.cps.toList.map fun c => .str ⟨#[c]⟩)) : SN ζ Γ (fun σ H R => w σ H R ∨ (fun σ H R => w' σ H R ∨ iStr te σ H R) σ H R) kk := fun I σ H as e l zz R q => .inr (.inr (h I σ H as e l zz _ fun I1 H1 v d hd g r => by
  obtain ⟨z, rfl, hk⟩ := hd
  cases r
  exact ⟨z, rfl, q I1 H1 _ _ hk g isw_s⟩))
theorem sn_rng1 {ta : TA} {kk : List D → Prop} (h : EAN ζ Γ ta fun xs => ∃ n : Int, xs = [.int n] ∧ -(2 ^ 62) ≤ n ∧ n < 2 ^ 62 ∧ kk ((List.range n.toNat).map fun (i : Nat) => D.int (i : Int))) : SN ζ Γ (iRng1 ta) kk := fun I σ H as e l zz R q => h I σ H as e l zz _ fun I1 H1 v d hd g r => by
  obtain ⟨n, rfl, h0, h1, hk⟩ := hd
  cases r with
  | cons a b =>
    cases a; cases b
    refine ⟨n, rfl, h0, h1, q I1 H1 _ _ hk g ?_⟩
    have := isw_rng (K := ζ.K) (I := I1) (lo := 0) (n := n.toNat)
    simpa using this
theorem sn_rng2 {ta : TA} {kk : List D → Prop} (h : EAN ζ Γ ta fun xs => ∃ m n : Int, xs = [.int m, .int n] ∧ (-(2 ^ 62) ≤ m ∧ m < 2 ^ 62 ∧ -(2 ^ 62) ≤ n ∧ n < 2 ^ 62) ∧ kk ((List.range (n - m).toNat).map fun (i : Nat) => D.int (m + (i : Int)))) : SN ζ Γ (iRng2 ta) kk := fun I σ H as e l zz R q => h I σ H as e l zz _ fun I1 H1 v d hd g r => by
  obtain ⟨m, n, rfl, h0, hk⟩ := hd
  cases r with
  | cons a b =>
    cases a
    cases b with
    | cons a b =>
      cases a; cases b
      exact ⟨m, n, rfl, h0, q I1 H1 _ _ hk g isw_rng⟩
theorem sn_enum {ta : TA} {kk : List D → Prop} (h : EAN ζ Γ ta fun xs => ∃ d ds, xs = [d] ∧ LD d ds ∧ kk (enumD ds)) : SN ζ Γ (iEnum ζ.K ta) kk := fun I σ H as e l zz R q => h I σ H as e l zz _ fun I1 H1 v d hd g r => by
  obtain ⟨d, ds, rfl, hl, hk⟩ := hd
  cases r with
  | cons a b =>
    cases b
    obtain ⟨a', vs, rfl, hs, hr⟩ := a.l hl
    refine ⟨_, _, rfl, ex_l g.ih hs, q I1 H1 _ _ hk g (isw_pair walk_enum ?_ (fun I2 H2 e1 e2 => ex_l (e1.trans e2) hs) ?_)⟩
    · rw [enumD, List.length_mapIdx, hr.length]
    · intro i x y hi h1 h2
      obtain ⟨d, hd, rd⟩ := hr.getV h2
      refine ⟨.int i, d, ?_, ?_, rd⟩
      · rw [enumD, List.getElem?_mapIdx, hd]; rfl
      · cases h1; exact .int _
end
/-! ### statements -/
theorem EndsOk.xok {c : Cz} {lb I H : Hp} {κ : Ks} {De : Ends} {σ : St} {as : Nat → Addr} {Γ : Sl} (q : EndsOk c lb κ De) (e : Ex lb I) (a : At c I σ H as Γ) : XOk ⟨c.K, c.W, κ.ex Γ⟩ I H σ := fun I' H' C ns ds dx hx g hd =>
  q.ex I' σ H' as Γ C ns ds dx hx (e.trans g.i) (a.mono g) (hd.back a.gr.th)
section
variable {c : Cz} {Γ Γ' : Sl} {κ : Ks} {te : TE} {t u ts : TS} {d : D} {ds : List D}
theorem bn_set {i : Nat} (h : EN ⟨c.K, c.W, κ.ex Γ⟩ Γ te fun d => κ.nx (Γ.set i (some (.im d)))) : B c Γ (tAsg te (gName i)) κ := fun lb I σ H as De e a q =>
  h I σ H as a.gr.ih a.lo (q.xok e a) _ fun I1 H1 v d k g r => q.nx _ _ _ _ _ k (e.trans g.i) ((a.mono g).set r)
theorem bn_asg {g : TG} (h : EN ⟨c.K, c.W, κ.ex Γ⟩ Γ te fun d => ∃ ws Γ1, Tgt c.K g d ws Γ Γ1 ∧ κ.nx Γ1) : B c Γ (tAsg te g) κ := fun lb I σ H as De e a q =>
  h I σ H as a.gr.ih a.lo (q.xok e a) _ fun I1 H1 v d k gg r => by
    obtain ⟨ws, Γ1, tg, hk⟩ := k
    have a1 := a.mono gg
    exact tg.run I1 σ H1 as v gg.ih a1.lo r _ fun σ' lo' _ _ => q.nx _ _ _ _ _ hk (e.trans gg.i) ⟨a1.gr, lo', fun j d h => a1.ok j d (tg.sub j d h), a1.fix⟩
theorem bn_drop (h : EN ⟨c.K, c.W, κ.ex Γ⟩ Γ te fun _ => κ.nx Γ) : B c Γ (tDrop te) κ := fun lb I σ H as De e a q =>
  h I σ H as a.gr.ih a.lo (q.xok e a) _ fun I1 H1 v d k g r => q.nx _ _ _ _ _ k (e.trans g.i) (a.mono g)
theorem bn_ret (h : EN ⟨c.K, c.W, κ.ex Γ⟩ Γ te fun d => κ.rt d Γ) : B c Γ (tRet te) κ := fun lb I σ H as De e a q =>
  h I σ H as a.gr.ih a.lo (q.xok e a) _ fun I1 H1 v d k g r => q.rt _ _ _ _ _ k (e.trans g.i) (a.mono g).gr r fun p hp e1 he => by
    obtain ⟨_, _, o, ho, r1⟩ := (a.mono g).lo.at_ _ _ he
    rw [a.fix p hp] at ho
    exact ⟨o, ho, r1⟩
theorem bn_if {tc : TT} (h : TN ⟨c.K, c.W, κ.ex Γ⟩ Γ tc fun b => (b = true → B c Γ t κ) ∧ (b = false → B c Γ u κ)) : B c Γ (tIfS tc t u) κ := fun lb I σ H as De e a q =>
  h I σ H as a.gr.ih a.lo (q.xok e a) _ fun I1 H1 b hb g => by
    cases b with
    | true => exact hb.1 rfl lb I1 σ H1 as De (e.trans g.i) (a.mono g) q
    | false => exact hb.2 rfl lb I1 σ H1 as De (e.trans g.i) (a.mono g) q
theorem bn_new {i : Nat} {ta : TA} (hm : ∀ p ∈ c.m, p.1 ≠ i) (h : EAN ⟨c.K, c.W, κ.ex Γ⟩ Γ ta fun ds => ds.length ≤ sizeLine ∧ κ.nx (Γ.set i (some (.mu (.lst ds))))) : B c Γ (tAsg (tLst ta) (gName i)) κ := fun lb I σ H as De e a q =>
  h I σ H as a.gr.ih a.lo (q.xok e a) _ fun I1 H1 vs ds hk g r => by
    refine ⟨by rw [r.length]; exact hk.1, fun p hp => ?_⟩
    have a1 := a.mono g
    refine q.nx I1 _ _ (updA as i p) _ hk.2 (e.trans g.i) ⟨a1.gr.trans (Gr.junk a1.gr.ih hp), a1.lo.setNew a1.gr.ih hp (.lst r), fun j e1 h1 => ?_, fun p' hp' => by rw [updA_ne (hm p' hp')]; exact a1.fix p' hp'⟩
    rcases set_get h1 with ⟨rfl, _⟩ | ⟨ne, h'⟩
    · rw [updA_same]
      left
      cases z : c.H p with
      | none => rfl
      | some o => exact absurd hp (a1.gr.th p (by rw [z]; exact nofun))
    · rw [updA_ne ne]; exact a1.ok j e1 h'
theorem bn_append {i : Nat} (hi : Γ[i]? = some (some (.mu (.lst ds)))) (hl : ds.length < sizeLine) (h : EN ⟨c.K, c.W, κ.ex Γ⟩ Γ te fun d => κ.nx (Γ.set i (some (.mu (.lst (ds ++ [d])))))) : B c Γ (tDrop (tBM c.K "list" rAppend (tVar i) (tCons te tNil))) κ := fun lb I σ H as De e a q => by
  obtain ⟨hv, hn, o, ho, r⟩ := a.lo.at_ i _ hi
  cases r with
  | lst r =>
    refine ⟨_, hv, .inl ⟨rfl, _, SqL.of ho⟩, ?_⟩
    refine h I σ H as a.gr.ih a.lo (q.xok e a) _ fun I1 H1 v d hk g r1 => ?_
    have ho1 := g.ex _ _ ho
    refine ⟨_, _, _, rfl, rfl, ho1, by rw [r.length]; exact hl, ?_⟩
    exact q.nx I1 _ _ as _ hk (e.trans g.i) ((a.mono g).put hi (.lst ((r.mono g.i).append (.one r1))))
/-- how a loop over xs is shown -/
inductive Loop (c : Cz) (Γ : Sl) (g : TG) (tb : TS) (κ : Ks) (xs : List D) : Prop
  | mk {S : Type} (R : Nat → S → Prop) (Γf : S → Sl) (s0 : S) (h0 : R 0 s0) (l0 : Le (Γf s0) Γ)
    (ht : ∀ i s d, xs[i]? = some d → R i s → ∃ ws Γ1, Tgt c.K g d ws (Γf s) Γ1 ∧ B c Γ1 tb ⟨fun Γ' => ∃ s', R (i + 1) s' ∧ Le (Γf s') Γ', κ.rt, κ.nx, fun Γ' => ∃ s', R (i + 1) s' ∧ Le (Γf s') Γ', κ.ex⟩)
    (hd : ∀ s, R xs.length s → κ.nx (Γf s)) : Loop c Γ g tb κ xs
theorem bn_for {wi : TI} {g : TG} {tb : TS} (h : SN ⟨c.K, c.W, κ.ex Γ⟩ Γ wi (Loop c Γ g tb κ)) : B c Γ (tFor wi g tb) κ := fun lb I σ H as De e a k =>
  h I σ H as a.gr.ih a.lo (k.xok e a) _ fun I1 H1 J xs hx g1 hw => by
    obtain ⟨R, Γf, s0, h0, l0, ht, hd⟩ := hx
    obtain ⟨Gc, Y, w, hg, hy⟩ := hw
    refine for_it (g := g) (tb := tb) (D := De) w (fun i σ H => ∃ I as s, R i s ∧ Ex I1 I ∧ At c I σ H as (Γf s)) ⟨I1, as, s0, h0, Ex.refl _, (a.mono g1).weak l0⟩ (fun i σ H _ ⟨I, as, s, _, e1, a1⟩ => hg I H e1 a1.gr.ih) ?_ ?_
    · rintro i x σ H H' hi ⟨I, as, s, r, e1, a1⟩ y
      obtain ⟨I2, d, g2, hd2, rx⟩ := hy i H x H' I hi y e1 a1.gr.ih
      obtain ⟨ws, Γ1, tg, hb⟩ := ht i s d hd2 r
      have a2 := a1.mono g2
      refine tg.run I2 σ H' as x g2.ih a2.lo rx _ fun σ' lo' _ _ => ?_
      have e3 : Ex I1 I2 := e1.trans g2.i
      have e0 : Ex lb I1 := e.trans g1.i
      exact hb I1 I2 σ' H' as _ e3 ⟨a2.gr, lo', fun j d h => a2.ok j d (tg.sub j d h), a2.fix⟩ ⟨fun I3 σ3 H3 as3 Γ3 ⟨s', r', le⟩ e4 a4 => ⟨I3, as3, s', r', e4, a4.weak le⟩,
        fun I3 H3 Γ3 v d hr e4 => k.rt I3 H3 Γ3 v d hr (e0.trans e4), fun I3 σ3 H3 as3 Γ3 hb e4 a4 => k.nx I3 σ3 H3 as3 Γ3 hb (e0.trans e4) a4, fun I3 σ3 H3 as3 Γ3 ⟨s', r', le⟩ e4 a4 => ⟨I3, as3, s', r', e4, a4.weak le⟩, fun I3 σ3 H3 as3 Γ3 C ns ds dx hx e4 => k.ex I3 σ3 H3 as3 Γ3 C ns ds dx hx (e0.trans e4)⟩
    · rintro σ H ⟨I, as, s, r, e1, a1⟩
      exact k.nx I σ H as _ (hd s r) ((e.trans g1.i).trans e1) a1
theorem Loop.fold {α : Type} {xs : List α} {em : α → D} {g : TG} {tb : TS} {S : Type} (step : S → α → S) (P : Nat → S → Prop) (Γf : S → Sl) (s0 : S) (h0 : P 0 s0) (l0 : Le (Γf s0) Γ) (hP : ∀ (i : Nat) (s : S) (x : α), xs[i]? = some x → P i s → P (i + 1) (step s x))
    (ht : ∀ (i : Nat) (s : S) (x : α), xs[i]? = some x → P i s → ∃ ws Γ1, Tgt c.K g (em x) ws (Γf s) Γ1 ∧ B c Γ1 tb ⟨fun Γ' => Le (Γf (step s x)) Γ', κ.rt, fun _ => False, fun Γ' => Le (Γf (step s x)) Γ', κ.ex⟩)
    (hd : P xs.length (xs.foldl step s0) → κ.nx (Γf (xs.foldl step s0))) : Loop c Γ g tb κ (xs.map em) := by
  refine .mk (fun i s => s = (xs.take i).foldl step s0 ∧ P i s) Γf s0 ⟨rfl, h0⟩ l0 ?_ ?_
  · rintro i s d hd ⟨e, p⟩
    rw [List.getElem?_map] at hd
    obtain ⟨x, hx⟩ : ∃ x, xs[i]? = some x := by
      cases hx : xs[i]? with
      | none => rw [hx] at hd; cases hd
      | some x => exact ⟨x, rfl⟩
    rw [hx] at hd
    cases hd
    obtain ⟨ws, Γ1, tg, hb⟩ := ht i s x hx p
    have e2 : step s x = (xs.take (i + 1)).foldl step s0 := by
      rw [List.take_add_one, hx, List.foldl_append, ← e]; rfl
    exact ⟨ws, Γ1, tg, b_ks hb (fun Γ' h => ⟨_, ⟨e2, hP i s x hx p⟩, h⟩) (fun _ _ h => h) (fun _ h => h.elim) (fun Γ' h => ⟨_, ⟨e2, hP i s x hx p⟩, h⟩)⟩
  · rintro s ⟨e, p⟩
    rw [List.length_map] at e p
    rw [List.take_length] at e
    subst e
    exact hd p
/-- a loop that only looks -/
theorem Loop.look {xs : List D} {g : TG} {tb : TS} (P : Nat → Prop) (Γf : Sl) (h0 : P 0) (l0 : Le Γf Γ)
    (ht : ∀ (i : Nat) (d : D), xs[i]? = some d → P i → ∃ ws Γ1, Tgt c.K g d ws Γf Γ1 ∧ B c Γ1 tb ⟨fun Γ' => P (i + 1) ∧ Le Γf Γ', κ.rt, κ.nx, fun Γ' => P (i + 1) ∧ Le Γf Γ', κ.ex⟩)
    (hd : P xs.length → κ.nx Γf) : Loop c Γ g tb κ xs := by
  refine .mk (fun i (_ : Unit) => P i) (fun _ => Γf) () h0 l0 ?_ ?_
  · rintro i s d hd p
    obtain ⟨ws, Γ1, tg, hb⟩ := ht i d hd p
    exact ⟨ws, Γ1, tg, b_ks hb (fun Γ' h => ⟨(), h.1, h.2⟩) (fun _ _ h => h) (fun _ h => h) (fun Γ' h => ⟨(), h.1, h.2⟩)⟩
  · rintro s p
    exact hd p
end
/-! ### comprehensions -/
section
variable {K : PySem.W.Frag} {Γ : Sl}
/-- item by item -/
inductive Each {α β : Type} (P : α → β → Prop) : List α → List β → Prop
  | nil : Each P [] []
  | cons {a : α} {b : β} {as : List α} {bs : List β} : P a b → Each P as bs → Each P (a :: as) (b :: bs)
theorem Each.length {α β : Type} {P : α → β → Prop} : ∀ {as : List α} {bs : List β}, Each P as bs → as.length = bs.length
  | _, _, .nil => rfl
  | _, _, .cons _ r => congrArg (· + 1) r.length
theorem Each.snoc {α β : Type} {P : α → β → Prop} {a : α} {b : β} (h : P a b) : ∀ {as : List α} {bs : List β}, Each P as bs → Each P (as ++ [a]) (bs ++ [b])
  | _, _, .nil => .cons h .nil
  | _, _, .cons q r => .cons q (Each.snoc h r)
theorem Each.mem {α β : Type} {P : α → β → Prop} : ∀ {as : List α} {bs : List β}, Each P as bs → ∀ b ∈ bs, ∃ a ∈ as, P a b
  | _, _, .cons q r, b, h => by
    rcases List.mem_cons.mp h with rfl | h
    · exact ⟨_, List.mem_cons_self, q⟩
    · obtain ⟨a, ha, hp⟩ := r.mem b h
      exact ⟨a, List.mem_cons_of_mem _ ha, hp⟩
theorem Each.map {α β : Type} {f : α → β} : ∀ {as : List α} {bs : List β}, Each (fun a b => b = f a) as bs → bs = as.map f
  | _, _, .nil => rfl
  | _, _, .cons q r => by rw [q, r.map]; rfl
theorem Each.get {α β : Type} {P : α → β → Prop} : ∀ {as : List α} {bs : List β} {i : Nat} {b : β}, Each P as bs → bs[i]? = some b → ∃ a, as[i]? = some a ∧ P a b
  | _, _, 0, _, .cons q _, h => by simp at h; subst h; exact ⟨_, rfl, q⟩
  | _, _, i + 1, _, .cons _ r, h => by
    obtain ⟨a, ha, hp⟩ := r.get (i := i) (by simpa using h)
    exact ⟨a, by simpa using ha, hp⟩
/-- [te for g in wi if tt]: the test by p, the items by P -/
theorem en_lc {ζ : Xz} {k : D → Prop} {wi : TI} {g : TG} {tt : TT} {te : TE} {vs : List Nat} (h : SN ζ Γ wi fun xs => xs.length ≤ 10000000 ∧ ∃ (p : D → Bool) (P : D → D → Prop),
    (∀ (i : Nat) (x : D), xs[i]? = some x → ∃ ws Γ1, Tgt ζ.K g x ws (wipeG Γ vs) Γ1 ∧ (∀ j ∈ ws, j ∈ vs) ∧ TN (zNo ζ.K) Γ1 tt fun b => b = p x ∧ (b = true → EN (zNo ζ.K) Γ1 te (P x))) ∧ ∀ ys, Each P (xs.filter p) ys → k (.lst ys)) : EN ζ Γ (tLc wi g tt te vs) k := fun I σ H as e l zz Q q =>
  h I σ H as e l zz _ fun I1 H1 J xs hx g1 hw => fun Dd hD => by
    obtain ⟨hl, p, P, ht, hk⟩ := hx
    obtain ⟨Gc, Y, w, hg, hy⟩ := hw
    have fresh1 : I1 Dd = none := g1.ih.free hD
    refine lc_it (Qd := fun H => Q (.ref Dd) H) w (fun i H => ∃ I' acc ys, Gr [] I1 H1 I' H ∧ I' Dd = none ∧ H Dd = some (.lst acc) ∧ Rps ζ.K I' acc ys ∧ Each P ((xs.take i).filter p) ys ∧ Lo ζ.K I' σ H as Γ)
      ⟨I1, [], [], Gr.junk g1.ih hD, fresh1, upd_same, .nil, by simp; exact .nil, (l.mono g1).mono (Gr.junk g1.ih hD)⟩ (fun i H _ ⟨I', acc, _, g2, _⟩ => hg I' H g2.i g2.ih) ?_ ?_
    · rintro i v H2 H3 hi ⟨I2, acc, ys, g2, n2, a2, r2, ea, l2⟩ y
      obtain ⟨I3, x, g3, hx, rx⟩ := hy i H2 v H3 I2 hi y g2.i g2.ih
      obtain ⟨ws, Γ1, tg, hws, t1⟩ := ht i x hx
      have nn : H2 Dd ≠ none := by rw [a2]; exact nofun
      refine tg.run I3 (wipe σ vs) H3 as v g3.ih ((l2.mono g3).wipe vs) rx _ fun σ' l' k' n' => ⟨wipe_eq k' n' hws, ?_⟩
      refine t1 I3 σ' H3 as g3.ih l' XOk.no _ fun I4 H4 b hb g4 => ?_
      obtain ⟨hb1, t2⟩ := hb
      have g34 := g3.trans g4
      have htake : xs.take (i + 1) = xs.take i ++ [x] := by rw [List.take_add_one, hx]; rfl
      have hlen : ((xs.take i).filter p).length ≤ xs.length := Nat.le_trans (List.length_filter_le _ _) (by rw [List.length_take]; omega)
      cases b with
      | true =>
        rw [if_pos rfl]
        refine t2 rfl I4 σ' H4 as g4.ih (l'.mono g4) XOk.no _ fun I5 H5 z d hd g5 r5 => ?_
        have g345 := g34.trans g5
        refine ⟨acc, g345.ex _ _ a2, ?_, I5, _, ys ++ [d], (g2.trans g345).mut (g345.none_i n2 nn) (.inl hD), g345.none_i n2 nn, upd_same, (r2.mono g345.i).append (.one r5), ?_, ?_⟩
        · rw [r2.length, ← ea.length, sizeLine_eq]; omega
        · rw [htake, List.filter_append]
          have : [x].filter p = [x] := by simp [← hb1]
          rw [this]
          exact ea.snoc hd
        · refine ⟨fun j s hj => ?_, l2.ne, l2.len⟩
          have q1 := (l2.mono g345).at_ j s hj
          cases s with
          | im d => exact q1
          | mu d =>
            obtain ⟨e1, n1, o1, r1, r3⟩ := q1
            refine ⟨e1, n1, o1, ?_, r3⟩
            have : as j ≠ Dd := fun z => by
              obtain ⟨_, _, o, ho, _⟩ := l.at_ j _ hj
              rw [z] at ho
              rw [g1.ex _ _ ho] at hD
              cases hD
            rw [upd_ne this]; exact r1
      | false =>
        rw [if_neg Bool.false_ne_true]
        refine ⟨I4, acc, ys, g2.trans g34, g34.none_i n2 nn, g34.ex _ _ a2, r2.mono g34.i, ?_, l2.mono g34⟩
        rw [htake, List.filter_append]
        have : [x].filter p = [] := by simp [← hb1]
        rw [this, List.append_nil]
        exact ea
    · rintro H2 ⟨I2, acc, ys, g2, n2, a2, r2, ea, _⟩
      rw [List.take_of_length_le (Nat.le_refl _)] at ea
      have g12 := g1.trans g2
      have hH : H Dd = none := g1.ex.free hD
      refine q _ _ _ _ (hk ys ea) (g12.frz n2 hH a2) (.lst upd_same (r2.mono (Ex.new n2)))
end
/-! ### defs whose result is told by a relation alone -/
theorem ok_ofN {P : Program} {w : World} {K : PySem.W.Frag} {mg : Str → Option Value} {base : Heap} {x qual : Str} {st : Stmt} {f : Addr} {fd : FuncData} {N ps : List Str} {k : Nat} {R : List D → D → Prop} (F : Fun K x qual st f fd) (S : FnScope N ps (defScope st)) (hn : ∀ ds d, R ds d → ds.length = ps.length)
    (hb : ∀ (cdv : Value) (A : Around) (outer : List Env) (s : Shared) (H : Hp) (E : XK), Room k (A.deeper (PyProof.Rows.envOfC qual (defScope st) s.heap.objs.size f cdv)) →
      ∃ t, PSs (cxOf CX0 P w K mg base N qual (defScope st) f cdv A outer s H E).nox (defBody st) t ∧ ∀ (I H' : Hp) ds d, R ds d → B ⟨K, I, H', [], fun _ _ _ _ => False⟩ (slots N ds) t { nx := fun _ => R ds .non, rt := fun e _ => R ds e }) :
    FnOk P w K mg base CX0 (k + 1) f fd ps (spN K R) := by
  refine F.ok S (fun vs H Q E h => ?_) (fun cdv A outer s H vs Q E hr h => ?_)
  · obtain ⟨I, ds, _, r, ⟨d, hR⟩, _⟩ := h
    rw [r.length]; exact hn ds d hR
  · obtain ⟨I, ds, e, r, ⟨d, hR⟩, q⟩ := h
    obtain ⟨t, ht, hB⟩ := hb cdv A outer s H E hr
    have nomu : ∀ (i : Nat) (d : D), (slots N ds)[i]? ≠ some (some (SV.mu d)) := fun i d h => by
      obtain ⟨h1, _⟩ := (lo_start (N := N) (H := H) r).at_ i _ h
      unfold slots at h
      rw [List.getElem?_append] at h
      split at h
      · rw [List.getElem?_map] at h
        cases q : ds[i]? with
        | none => rw [q] at h; cases h
        | some x => rw [q] at h; cases h
      · obtain ⟨a, b⟩ := List.getElem?_eq_some_iff.mp h
        rw [List.getElem_replicate] at b
        cases b
    exact ⟨t, ht, hB I H ds d hR I I _ H (fun _ => 0) _ (Ex.refl _) ⟨Gr.refl e, lo_start r, fun i d h => absurd h (nomu i d), fun p hp => nomatch hp⟩
      ⟨fun I1 σ1 H1 as Γ1 h1 _ a1 => q I1 H1 .non _ h1 a1.gr .non, fun I1 H1 Γ1 v e1 h1 _ g1 r1 _ => q I1 H1 v _ h1 g1 r1, fun _ _ _ _ _ h => h.elim, fun _ _ _ _ _ h => h.elim, fun _ _ _ _ _ _ _ _ _ h => h.elim⟩⟩
structure CalleeN (P : Program) (w : World) (K : PySem.W.Frag) (mg : Str → Option Value) (base : Heap) (x : Str) (k : Nat) (ps : List Str) (R : List D → D → Prop) : Prop where
  ex : ∃ f fd, FnOk P w K mg base CX0 k f fd ps (spN K R) ∧ mg x = some (.ref f) ∧ PySem.W.keepIn K (.ref f) = true ∧ Binds K fd ps [] ∧ ∃ (oc : Value) (od : Option Addr) (osl : Array (Option Value)), K.lookup f = some ⟨oc, od, .func fd, osl⟩
theorem ok_defN {P : Program} {w : World} {K : PySem.W.Frag} {mg : Str → Option Value} {base : Heap} {x qual : Str} {st : Stmt} {N ps : List Str} {k : Nat} {R : List D → D → Prop} (F : DefAt K mg x qual st ps) (S : FnScope N ps (defScope st)) (hn : ∀ ds d, R ds d → ds.length = ps.length)
    (hb : ∀ (f : Addr) (cdv : Value) (A : Around) (outer : List Env) (s : Shared) (H : Hp) (E : XK), Room k (A.deeper (PyProof.Rows.envOfC qual (defScope st) s.heap.objs.size f cdv)) →
      ∃ t, PSs (cxOf CX0 P w K mg base N qual (defScope st) f cdv A outer s H E).nox (defBody st) t ∧ ∀ (I H' : Hp) ds d, R ds d → B ⟨K, I, H', [], fun _ _ _ _ => False⟩ (slots N ds) t { nx := fun _ => R ds .non, rt := fun e _ => R ds e }) :
    CalleeN P w K mg base x (k + 1) ps R := by
  obtain ⟨f, fd, F1, hm, b⟩ := F.ex
  obtain ⟨oc, od, kV, doc, pm, an, cdv, ct, osl, rfl, lk, _⟩ := id F1.ex
  exact ⟨f, _, ok_ofN F1 S hn (hb f), hm, F1.kp, b, oc, od, osl, lk⟩
section
variable {X : Cx} {P : Program} {w : World} (K : PySem.W.Frag) {mg : Str → Option Value} {base : Heap} {x : Str} {j k : Nat} {ps : List Str} {R : List D → D → Prop} {p pos : Pos} {e : Expr} {es : List Expr} {t : TA}
theorem k_callN (c : CalleeN P w K mg base x k ps R) (hr : Room j X.A) (hk : k ≤ j) (hg : Gl X x) (ha : PA X (e :: es) t) (hdb : (x == ("__debug__" : Str)) = false := by decide)
    (he : starEach (e :: es) X.env = (false, eval e X.env) :: starEach es X.env := by rfl) (hpl : (backTo pos (starEach es X.env)).any (·.1) = false := by rfl) (hx : Passes CX0 X E0 := by exact pass0)
    (hX : X.prog = P ∧ X.w = w ∧ X.K = K ∧ X.mg = mg ∧ X.base = base := by exact ⟨rfl, rfl, rfl, rfl, rfl⟩) :
    PE X (.Call (.Name x p) (e :: es) [] pos) (tCall (spN K R) [] E0 t) := by
  obtain ⟨rfl, rfl, rfl, rfl, rfl⟩ := hX
  obtain ⟨f, fd, F, hm, kp, b, _⟩ := c.ex
  exact pe_call F (hr.mono hk) hg hm kp b .nil hx ha hdb he hpl
end
end G

namespace G
open PySem PySem.Spec L2 PyProof.Rows
theorem exn_at {P : Program} {w : World} {H : Hp} {h : Heap} {a C dx : Addr} (hok : HOk P w H h) (he : ExnAt H a C dx) : ∃ oe, h.get? a = some oe ∧ Zc (.ref C) (some dx) oe ∧ PySem.W.notCls oe = true := by
  rcases he with he | he
  · obtain ⟨t1, ho⟩ := exo_at hok he
    exact ⟨_, ho, ⟨rfl, rfl⟩, rfl⟩
  · have x : ObjOk P w H h a (.ext fun h => ∃ (oe : Obj) (vs : Array Value), h.get? a = some oe ∧ Zc (.ref C) (some dx) oe ∧ oe.data = .fields vs) := hok a _ he
    obtain ⟨⟨oe, vs, e, z, q⟩, _⟩ := x
    exact ⟨oe, e, z, by unfold PySem.W.notCls; rw [q] <;> rfl⟩
theorem exdd_at {P : Program} {w : World} {H : Hp} {h : Heap} {dx : Addr} {fs : List (Str × V)} (hok : HOk P w H h) (he : ExdAt H dx fs) : ∃ mA, h.Ns1 dx mA ∧ ∀ f, RelO (fs.lookup f) (mA f) := by
  rcases he with he | he
  · exact exd_at hok he
  · have x : ObjOk P w H h dx (.xd fs) := hok dx _ he
    exact x
/-! ### exceptions of the program's own, as values -/
def tExv (C : Addr) (sp : Sp) (ta : TA) : TE := fun σ H Q => ta σ H fun vs H1 => vs.length ≤ 1000 ∧ ∀ a, H1 a = none → sp (.ref a :: vs) (upd H1 a (exo a C none)) (fun v H2 => v = .non ∧ Q (.ref a) H2) (fun _ _ _ => False)
section
variable {X : Cx} {o e : Expr} {es : List Expr} {to te : TE} {ta : TA} {f : Str} {p p' p1 p2 pos : Pos}
/-- C(e, ..) as a value, C's own __init__ keeping sp -/
theorem pe_exv {CX : CXT} {x : Str} {C fI : Addr} {k : Nat} {fd : FuncData} {ps : List Str} {sp : Sp} (T : OexC X.K C) (iC : PySem.W.findIn X.K (.ref C) "__init__" = some (some (.ref fI))) (tI : PySem.W.typeIn X.K (.ref fI) = some (.type "function"))
    (F1 : FnOk X.prog X.w X.K X.mg X.base CX k fI fd ps sp) (hr : Room (k + 1) X.A) (hb : Binds X.K fd ps []) (hx : Passes CX X (fun _ _ _ => False)) (hg : Gl X x) (hm : X.mg x = some (.ref C)) (ha : PA X (e :: es) ta)
    (hdb : (x == ("__debug__" : Str)) = false := by decide) (he : starEach (e :: es) X.env = (false, eval e X.env) :: starEach es X.env := by rfl) (hpl : (backTo pos (starEach es X.env)).any (·.1) = false := by rfl) :
    PE X (.Call (.Name x p) (e :: es) [] pos) (tExv C sp ta) := by
  refine ⟨fun pins s σ H Q I h => ?_⟩
  obtain ⟨nm, q, N, bs, bm, sn, sub, ab, col, dd, k0, k1, k2, k3, k5, hC, hbm⟩ := T.cls
  refine wpAny_Call_Name_kw (ld_glob I hg hm ?_ hdb)
  refine PySem.W.callWith_K (h₀ := X.base) I.ok.mod.kin T.kC (thn (ha.run pos pins s σ H _ I h) fun us s1 ⟨vs, H1, I1, r1, hz, q1⟩ => ⟨I1.kIn, ?_⟩) he hpl
  show wpAny _ _ (call (.ref C) us) _ _ _
  obtain ⟨hp, g, dr, tk, os⟩ := s1
  have hsz : hp.objs.size ≤ hp.objs.size + 1 := Nat.le_succ _
  have hn : H1 (hp.objs.size + 1) = none := I1.hok.fresh hsz
  have hq := q1 (hp.objs.size + 1) hn
  have kk : ∀ b o, hp.get? b = some o → ((hp.push (PySem.W.kdv_tup us)).push (PySem.HandSPX.excO C hp.objs.size)).get? b = some o := fun b o e => Heap.get?_push_of_some _ (Heap.get?_push_of_some _ e)
  have hget : ((hp.push (PySem.W.kdv_tup us)).push (PySem.HandSPX.excO C hp.objs.size)).get? (hp.objs.size + 1) = some (PySem.HandSPX.excO C hp.objs.size) := by heap_get
  have I2 : Inv X pins σ (upd H1 (hp.objs.size + 1) (exo (hp.objs.size + 1) C none)) ⟨(hp.push (PySem.W.kdv_tup us)).push (PySem.HandSPX.excO C hp.objs.size), g, dr, tk, os⟩ :=
    I1.laid (t' := tk) (a := hp.objs.size + 1) (o := exo (hp.objs.size + 1) C none) (h' := (hp.push (PySem.W.kdv_tup us)).push (PySem.HandSPX.excO C hp.objs.size)) kk hsz (exo_ok hget)
  have r2 : Vals (V.ref (hp.objs.size + 1) :: vs) (Value.ref (hp.objs.size + 1) :: us) := .cons rfl r1
  have hl : (Value.ref (hp.objs.size + 1) :: us).length = ps.length := by
    have e := r2.length
    rw [F1.len _ _ _ _ hq] at e
    exact e.symm
  have hus : us.length ≤ sizeLine := by
    rw [← Paired.length r1, sizeLine_eq]
    omega
  have b := hb _ (Value.ref (hp.objs.size + 1) :: us) I2.kIn (by rw [List.append_nil]; exact hl)
  rw [List.append_nil] at b
  refine wpAny_call (PySem.HandSPX.call_own F.excBase_ValueError (fun Y => PySem.HandSPX.refsVE_contains Y bm hbm) (I1.kIn _ _ hC) (PySem.W.looks_findIn I1.kIn iC) (fun self => PySem.W.bind_fn I1.kIn self tI) hus
    (codeAny_mono (F1.run _ X.stack _ _ ⟨Value.ref (hp.objs.size + 1) :: us, []⟩ (Value.ref (hp.objs.size + 1) :: us) _ _ (fun _ _ _ => False) (hr.make C us []) (I2.env0.make C us []) b r2 hq) fun r s' hq' => ?_))
  cases r with
  | error er => exact hx pins σ _ _ er s' I2 hq'
  | ok fl =>
    cases fl with
    | ret u =>
      obtain ⟨v, H2, J, rv, ev, q2⟩ := I2.after hq'
      subst ev
      exact ⟨rv, .ref (hp.objs.size + 1), H2, J, rfl, q2⟩
    | next => exact False.elim hq'
    | brk => exact False.elim hq'
    | cont => exact False.elim hq'
/-- B.__init__(self, ..) where the class B of the text has ValueError's own -/
theorem pe_teinit {pl : Sem Bool} {x : Str} {CT : Addr} (hg : Gl X x) (hm : X.mg x = some (.ref CT)) (r : ClX.CRead X.K CT (.type "type")) (vV : PySem.W.findCls X.K (.ref CT) (.type "type") "__init__" = some (.val (.builtin "ValueError.__init__"))) (ha : PA X (e :: es) ta)
    (hdb : (x == ("__debug__" : Str)) = false := by decide)
    (hc : eval (.Call (.Attribute (.Name x p1) "__init__" p2) (e :: es) [] pos) X.env = (do
      let ov ← eval (.Name x p1) X.env
      standAt p2.atName
      let (f, first) ← holding [ov] (getMethod ov "__init__" pl)
      callWith pos f first (backTo pos (starEach (e :: es) X.env)) (backToKw pos (keywordEach [] X.env))) := by rfl)
    (he : starEach (e :: es) X.env = (false, eval e X.env) :: starEach es X.env := by rfl) (hpl : (backTo pos (starEach es X.env)).any (·.1) = false := by rfl) :
    PE X (.Call (.Attribute (.Name x p1) "__init__" p2) (e :: es) [] pos) (tVeI X.K ta) := by
  refine ⟨fun pins s σ H Q I h => ?_⟩
  refine PySem.W.methodCall_KW (ld_glob I hg hm ?_ hdb) hc
  refine PySem.W.method_cls I.kIn r.ga (PySem.W.cls_value I.kIn r.rd vV (by decide +kernel) ?_)
  show wpAny _ _ (callWith pos (Value.builtin "ValueError.__init__") [] (backTo pos (starEach (e :: es) X.env)) []) _ _ _
  refine PyProof.Rows.callWith_method1 (thn (ha.run pos pins _ σ H _ (I.tok _) h) fun us s1 ⟨vs, H1, I1, r1, a, C, ws, ev, hl, T, ea, q⟩ => ?_) he hpl
  subst ev
  cases r1 with
  | @cons _ u0 _ ur ra rw' =>
    obtain rfl : u0 = Value.ref a := ra
    have hlen : ur.length ≤ sizeLine := by
      rw [← Paired.length rw', sizeLine_eq]
      omega
    exact oinit_ok T I1 ea hlen fun s' J => ⟨.non, H1, J, rfl, q⟩
/-- e.f, e an exception that has its dict -/
def tXv (K : PySem.W.Frag) (te : TE) (f : Str) : TE := fun σ H Q => te σ H fun x H1 => ∃ (a C dd : Addr) (fs : List (Str × V)) (v : V), x = .ref a ∧ XfC K C ∧ PySem.W.findIn K (.ref C) f = some none ∧ ExnAt H1 a C dd ∧ ExdAt H1 dd fs ∧ fs.lookup f = some v ∧ Q v H1
theorem pe_xv {n : Str} (he : PE X e te) (hb : attributeBase e n X.env (eval e X.env) = eval e X.env := by rfl) :
    PE X (.Attribute e n pos) (tXv X.K te n) := by
  refine ⟨fun pins s σ H Q I h => ?_⟩
  refine attr_of hb (thn (he.run pins s σ H _ I h) fun u s1 hh => ?_)
  obtain ⟨x, H1, I1, rx, a, C, dd, fs, v, ex, T, hno, ea, ed, l, q⟩ := hh
  subst ex
  obtain rfl : u = Value.ref a := rx
  obtain ⟨oe, ho, hz, hd⟩ := exn_at I1.hok ea
  obtain ⟨mA, hns, hr⟩ := exdd_at I1.hok ed
  obtain ⟨od, hod, hl⟩ := lookIn_ns hns
  obtain ⟨u, hu, ru⟩ := RelO.some_of (v := v) (o := mA n) (by rw [← l]; exact hr n)
  have J : PySem.W.InstAt s1.heap a oe C (some od) := ⟨ho, hz.1, hd, by rw [hz.2]; exact hod⟩
  exact HandSPX.exc_get I1.kIn J T.ga T.gg T.exC (PySem.W.findObj_own T.hdC hno rfl (by rw [hl, hu])) (handed_of ru) ⟨v, H1, I1.tok _, ru, q⟩
end
/-- what K says of a class of exceptions, for isinstance -/
structure XiC (K : PySem.W.Frag) (C : Addr) : Prop where
  cl : (PySem.W.clsIn K C).isSome = true
  ga : PySem.W.findIn K (.ref C) "__getattribute__" = some (some (.builtin "BaseException.__getattribute__"))
  gg : PySem.W.findIn K (.ref C) "__getattr__" = some none
  su : PySem.W.subIn K (.ref C) (.type "BaseException") = some true
  ha : PySem.W.findIn K (.ref C) "__class__" = some (some (.builtin "object.__class__"))
  hn : PySem.W.specialIn K (.builtin "object.__class__") "__get__" = some (some (.builtin "getset_descriptor.__get__"))
  ht : PySem.W.takesIn K (.builtin "object.__class__") = some true
  hm : PySem.W.mroIn K C (.type "object") = some true
/-- isinstance(e, c), e an exception that has its dict -/
def rIsX (K : PySem.W.Frag) : List V → Hp → VK → Prop := fun xs H Q => ∃ (a D dd : Addr) (c : V) (cv : Value) (b : Bool) (fs : List (Str × V)), xs = [.ref a, c] ∧ (∀ u, RelV c u → u = cv) ∧ XiC K D ∧ ExnAt H a D dd ∧ ExdAt H dd fs ∧ PySem.W.kitOne K (.ref D) cv = some b ∧ Q (.bl b) H
theorem call_isX {X : Cx} : CallR X (.builtin "isinstance") (rIsX X.K) := by
  intro pins s σ H xs us Q I r h
  obtain ⟨a, D, dd, c, cv, b, fs, rfl, hcv, C, ea, ed, e, q⟩ := h
  cases r with
  | cons rx rr =>
    cases rr with
    | cons rt rr =>
      cases rr
      cases rx
      have ec := hcv _ rt
      subst ec
      obtain ⟨oe, ho, hz, hd⟩ := exn_at I.hok ea
      obtain ⟨mA, hns, hr⟩ := exdd_at I.hok ed
      obtain ⟨od, hod, hl⟩ := lookIn_ns hns
      have J : PySem.W.InstAt s.heap a oe D (some od) := ⟨ho, hz.1, hd, by rw [hz.2]; exact hod⟩
      exact PySem.W.kia_one (PySem.W.kitx_exc C.cl C.ga C.gg C.su C.ha C.hn C.ht C.hm) I.kIn J e (fun z => nomatch z) fun tk => ⟨.bl b, H, I.kept (t' := tk) fun _ _ z => z, rfl, q⟩

/-! ### what an own __init__ of one field keeps, of two -/
def spI (C : Addr) (f : Str) : Sp := fun vs H Q _ => ∃ (a : Addr) (y : V), vs = [.ref a, y] ∧ H a = some (exo a C none) ∧ ∀ dx, H dx = none → dx ≠ a → Q .non (upd (upd H dx (exd dx [(f, y)])) a (exo a C (some dx)))
def spI2 (C : Addr) (f g : Str) : Sp := fun vs H Q _ => ∃ (a : Addr) (y z : V), vs = [.ref a, y, z] ∧ H a = some (exo a C none) ∧ ∀ dx, H dx = none → dx ≠ a → Q .non (upd (upd H dx (exd dx [(g, z), (f, y)])) a (exo a C (some dx)))
section
variable {P : Program} {w : World} {K : PySem.W.Frag} {mg : Str → Option Value} {base : Heap}
theorem ok_init {C : Addr} {qual fld p m : Str} {st : Stmt} {f : Addr} {fd : FuncData} (F : Fun K "__init__" qual st f fd) (S : FnScope ["self", p] ["self", p] (defScope st)) (T : OexC K C) (hno : PySem.W.findIn K (.ref C) fld = some none)
    (hb : ∀ (cdv : Value) (A : Around) (outer : List Env) (s : Shared) (H : Hp) (E : XK), PSs (cxOf CX0 P w K mg base ["self", p] qual (defScope st) f cdv A outer s H E).nox (defBody st) (tSeq (tDrop (tVeI K (tCons (tVar 0) (tCons (tC (.str m)) tNil)))) (tOst K fld (tVar 0) (tVar 1)))) :
    FnOk P w K mg base CX0 1 f fd ["self", p] (spI C fld) := by
  refine F.ok (k := 0) S (fun vs H Q E ⟨a, y, e, _⟩ => by rw [e]; rfl) (fun cdv A outer s H vs Q E hr ⟨a, y, e, ha, q⟩ => ⟨_, hb cdv A outer s H E, ?_⟩)
  subst e
  refine ⟨.ref a, rfl, ⟨a, C, [.str m], rfl, Nat.le_of_ble_eq_true rfl, T, ha, ?_⟩⟩
  refine ⟨y, rfl, .ref a, rfl, a, C, rfl, T, hno, .inl ⟨ha, fun dx h1 h2 => q dx h1 h2⟩⟩
theorem ok_init2 {C : Addr} {qual fld gld p r m : Str} {st : Stmt} {f : Addr} {fd : FuncData} (F : Fun K "__init__" qual st f fd) (S : FnScope ["self", p, r] ["self", p, r] (defScope st)) (T : OexC K C) (hno : PySem.W.findIn K (.ref C) fld = some none) (hno2 : PySem.W.findIn K (.ref C) gld = some none)
    (hb : ∀ (cdv : Value) (A : Around) (outer : List Env) (s : Shared) (H : Hp) (E : XK), PSs (cxOf CX0 P w K mg base ["self", p, r] qual (defScope st) f cdv A outer s H E).nox (defBody st) (tSeq (tDrop (tVeI K (tCons (tVar 0) (tCons (tC (.str m)) tNil)))) (tSeq (tOst K fld (tVar 0) (tVar 1)) (tOst K gld (tVar 0) (tVar 2))))) :
    FnOk P w K mg base CX0 1 f fd ["self", p, r] (spI2 C fld gld) := by
  refine F.ok (k := 0) S (fun vs H Q E ⟨a, y, z, e, _⟩ => by rw [e]; rfl) (fun cdv A outer s H vs Q E hr ⟨a, y, z, e, ha, q⟩ => ⟨_, hb cdv A outer s H E, ?_⟩)
  subst e
  refine ⟨.ref a, rfl, ⟨a, C, [.str m], rfl, Nat.le_of_ble_eq_true rfl, T, ha, ?_⟩⟩
  refine ⟨y, rfl, .ref a, rfl, a, C, rfl, T, hno, .inl ⟨ha, fun dx h1 h2 => ?_⟩⟩
  refine ⟨z, rfl, .ref a, rfl, a, C, rfl, T, hno2, .inr ⟨dx, [(fld, y)], upd_same, by rw [upd_ne h2]; exact upd_same, Nat.le_of_ble_eq_true rfl, ?_⟩⟩
  have e : upd (upd (upd H dx (exd dx [(fld, y)])) a (exo a C (some dx))) dx (exd dx [(gld, z), (fld, y)]) = upd (upd H dx (exd dx [(gld, z), (fld, y)])) a (exo a C (some dx)) := by
    funext b
    by_cases hb : b = dx
    · subst hb; rw [upd_same, upd_ne h2, upd_same]
    · rw [upd_ne hb]
      by_cases hba : b = a
      · subst hba; rw [upd_same, upd_same]
      · rw [upd_ne hba, upd_ne hba, upd_ne hb, upd_ne hb]
  rw [e]
  exact q dx h1 h2
end
/-- a class of exceptions of the text: at C, what its own __init__ keeps -/
structure XCallee (P : Program) (w : World) (K : PySem.W.Frag) (mg : Str → Option Value) (base : Heap) (x : Str) (C : Addr) (ps : List Str) (sp : Sp) : Prop where
  oc : OexC K C
  ex : ∃ fI fd, PySem.W.findIn K (.ref C) "__init__" = some (some (.ref fI)) ∧ PySem.W.typeIn K (.ref fI) = some (.type "function") ∧ FnOk P w K mg base CX0 1 fI fd ps sp ∧ Binds K fd ps []
  mg : mg x = some (.ref C)
/-- what is asked of a class of exceptions, all at one time -/
def xokB (K : PySem.W.Frag) (C : Addr) (fs : List Str) : Bool :=
  decide (PySem.W.findIn K (.ref C) "__getattribute__" = some (some (.builtin "BaseException.__getattribute__"))) && (decide (PySem.W.findIn K (.ref C) "__getattr__" = some none) && (decide (PySem.W.subIn K (.ref C) (.type "BaseException") = some true) && (PySem.W.hasDictIn K C &&
  ((PySem.W.clsIn K C).isSome && (decide (PySem.W.findIn K (.ref C) "__class__" = some (some (.builtin "object.__class__"))) && (decide (PySem.W.specialIn K (.builtin "object.__class__") "__get__" = some (some (.builtin "getset_descriptor.__get__"))) &&
  (decide (PySem.W.takesIn K (.builtin "object.__class__") = some true) && (decide (PySem.W.mroIn K C (.type "object") = some true) && fs.all fun f => decide (PySem.W.findIn K (.ref C) f = some none)))))))))
structure XOk' (K : PySem.W.Frag) (C : Addr) (fs : List Str) : Prop where
  xf : XfC K C
  xi : XiC K C
  no : ∀ f ∈ fs, PySem.W.findIn K (.ref C) f = some none
theorem xok_of {K : PySem.W.Frag} {C : Addr} {fs : List Str} (h : xokB K C fs = true) : XOk' K C fs := by
  obtain ⟨h1, h⟩ := Bool.and_eq_true_iff.mp h
  obtain ⟨h2, h⟩ := Bool.and_eq_true_iff.mp h
  obtain ⟨h3, h⟩ := Bool.and_eq_true_iff.mp h
  obtain ⟨h4, h⟩ := Bool.and_eq_true_iff.mp h
  obtain ⟨h5, h⟩ := Bool.and_eq_true_iff.mp h
  obtain ⟨h6, h⟩ := Bool.and_eq_true_iff.mp h
  obtain ⟨h7, h⟩ := Bool.and_eq_true_iff.mp h
  obtain ⟨h8, h⟩ := Bool.and_eq_true_iff.mp h
  obtain ⟨h9, h⟩ := Bool.and_eq_true_iff.mp h
  exact ⟨⟨of_decide_eq_true h1, of_decide_eq_true h2, of_decide_eq_true h3, h4⟩, ⟨h5, of_decide_eq_true h1, of_decide_eq_true h2, of_decide_eq_true h3, of_decide_eq_true h6, of_decide_eq_true h7, of_decide_eq_true h8, of_decide_eq_true h9⟩,
    fun f hf => of_decide_eq_true (List.all_eq_true.mp h f hf)⟩
section
variable {X : Cx} {P : Program} {w : World} (K : PySem.W.Frag) {mg : Str → Option Value} {base : Heap} {x : Str} {C : Addr} {j : Nat} {ps : List Str} {sp : Sp} {p pos : Pos} {e : Expr} {es : List Expr} {t : TA}
theorem k_exv (c : XCallee P w K mg base x C ps sp) (hr : Room j X.A) (hk : 2 ≤ j) (hg : Gl X x) (ha : PA X (e :: es) t) (hdb : (x == ("__debug__" : Str)) = false := by decide)
    (he : starEach (e :: es) X.env = (false, eval e X.env) :: starEach es X.env := by rfl) (hpl : (backTo pos (starEach es X.env)).any (·.1) = false := by rfl) (hx : Passes CX0 X E0 := by exact pass0)
    (hX : X.prog = P ∧ X.w = w ∧ X.K = K ∧ X.mg = mg ∧ X.base = base := by exact ⟨rfl, rfl, rfl, rfl, rfl⟩) :
    PE X (.Call (.Name x p) (e :: es) [] pos) (tExv C sp t) := by
  obtain ⟨rfl, rfl, rfl, rfl, rfl⟩ := hX
  obtain ⟨fI, fd, iC, tI, F, b⟩ := c.ex
  exact pe_exv c.oc iC tI F (hr.mono hk) b hx hg c.mg ha hdb he hpl
theorem k_xv {n : Str} {te : TE} (he : PE X e te) (hb : attributeBase e n X.env (eval e X.env) = eval e X.env := by rfl) (hK : X.K = K := by rfl) : PE X (.Attribute e n pos) (tXv K te n) := by subst hK; exact pe_xv he hb
end
def rIsiX (K : PySem.W.Frag) : List V → Hp → VK → Prop := fun xs H Q => rIsi K xs H Q ∨ rIsX K xs H Q
theorem k_isiX {X : Cx} (K : PySem.W.Frag) (hK : X.K = K := by rfl) : CallR X (.builtin "isinstance") (rIsiX K) := by
  subst hK
  intro pins s σ H xs us Q I r h
  rcases h with h | h
  · exact call_isi _ _ _ _ _ _ _ I r h
  · exact call_isX _ _ _ _ _ _ _ I r h
section
variable {K : PySem.W.Frag} {Γ : Sl} {te : TE} {ta : TA} {d : D} {C : Addr} {f g : Str}
theorem ca_isL {xs : List D} {d : D} (h : Ca K (rIsi K) xs d) : Ca K (rIsiX K) xs d := fun I H us e r Q q => .inl (h I H us e r Q q)
theorem ca_isR {D0 C0 : Addr} {ns : List Str} {ds : List D} {b : Bool} (xi : XiC K D0) (hk : PySem.W.kitOne K (.ref D0) (.ref C0) = some b) : Ca K (rIsiX K) [.exn D0 ns ds, .ref C0] (.bl b) := fun I H us e r Q q => by
  cases r with
  | cons r1 r =>
    cases r with
    | cons r2 r =>
      cases r
      cases r2
      cases r1 with
      | exn h1 h2 hl hr => exact .inr ⟨_, _, _, _, _, _, _, rfl, fun u hu => hu, xi, h1.mono e, h2.mono e, hk, q I H _ (Gr.refl e) (.bl b)⟩
theorem ca_isRT {D0 : Addr} {n : String} {ns : List Str} {ds : List D} {b : Bool} (xi : XiC K D0) (hk : PySem.W.kitOne K (.ref D0) (.type n) = some b) : Ca K (rIsiX K) [.exn D0 ns ds, .ty n] (.bl b) := fun I H us e r Q q => by
  cases r with
  | cons r1 r =>
    cases r with
    | cons r2 r =>
      cases r
      cases r2
      cases r1 with
      | exn h1 h2 hl hr => exact .inr ⟨_, _, _, _, _, _, _, rfl, fun u hu => hu, xi, h1.mono e, h2.mono e, hk, q I H _ (Gr.refl e) (.bl b)⟩
theorem lk_put {α : Type} (f g : Str) (y : α) (fs : List (Str × α)) : ((f, y) :: fs).lookup g = if g = f then some y else fs.lookup g := by
  by_cases h : g = f
  · subst h; simp [List.lookup]
  · have e : (g == f) = false := by simpa using h
    rw [if_neg h]; simp [List.lookup, e]
theorem lk_zip {I : Hp} {f : Str} : ∀ {ns : List Str} {vs : List V} {ds : List D} {d : D}, Rps K I vs ds → (ns.zip ds).lookup f = some d → ∃ v, (ns.zip vs).lookup f = some v ∧ Rp K I v d
  | [], _, _, _, _, h => by simp at h
  | _ :: _, _, _, _, .nil, h => by simp at h
  | n :: ns, _, _, d, .cons (v := v) (d := d') r rs, h => by
    rw [List.zip_cons_cons, lk_put] at h
    rw [List.zip_cons_cons, lk_put]
    by_cases e : f = n
    · rw [if_pos e] at h ⊢; cases h; exact ⟨v, rfl, r⟩
    · rw [if_neg e] at h ⊢; exact lk_zip rs h
/-- the fields as they stand: the last one set first -/
theorem e_exv (ha : EA K Γ ta [d]) : E K Γ (tExv C (spI C f) ta) (.exn C [f] [d]) := fun I σ H as e l Q q => by
  refine ha I σ H as e l _ fun I1 H1 vs g1 r1 => ⟨by rw [r1.length]; exact Nat.le_of_ble_eq_true rfl, fun a hn => ?_⟩
  cases r1 with
  | cons r r' =>
    cases r'
    rename_i y
    refine ⟨a, y, rfl, upd_same, fun dx h1 h2 => ⟨rfl, ?_⟩⟩
    rw [upd_ne h2] at h1
    have ee : upd (upd (upd H1 a (exo a C none)) dx (exd dx [(f, y)])) a (exo a C (some dx)) = upd (upd H1 dx (exd dx [(f, y)])) a (exo a C (some dx)) := by
      funext b
      by_cases hb : b = a
      · subst hb; rw [upd_same, upd_same]
      · rw [upd_ne hb, upd_ne hb]
        by_cases hd : b = dx
        · subst hd; rw [upd_same, upd_same]
        · rw [upd_ne hd, upd_ne hd, upd_ne hb]
    rw [ee]
    have gA := Gr.new (m := []) (o := exd dx [(f, y)]) g1.ih h1
    have hna : upd H1 dx (exd dx [(f, y)]) a = none := by rw [upd_ne (Ne.symm h2)]; exact hn
    have gB := Gr.new (m := []) (o := exo a C (some dx)) gA.ih hna
    refine q _ _ _ ((g1.trans gA).trans gB) (.exn (xs := [y]) (.inl upd_same) (.inl ?_) rfl (.cons (r.mono (gA.trans gB).i) .nil))
    rw [upd_ne h2]; exact upd_same
theorem e_exv2 {d2 : D} (ha : EA K Γ ta [d, d2]) : E K Γ (tExv C (spI2 C f g) ta) (.exn C [g, f] [d2, d]) := fun I σ H as e l Q q => by
  refine ha I σ H as e l _ fun I1 H1 vs g1 r1 => ⟨by rw [r1.length]; exact Nat.le_of_ble_eq_true rfl, fun a hn => ?_⟩
  cases r1 with
  | cons r r' =>
    cases r' with
    | cons rz r' =>
    cases r'
    rename_i y z
    refine ⟨a, y, z, rfl, upd_same, fun dx h1 h2 => ⟨rfl, ?_⟩⟩
    rw [upd_ne h2] at h1
    have ee : upd (upd (upd H1 a (exo a C none)) dx (exd dx [(g, z), (f, y)])) a (exo a C (some dx)) = upd (upd H1 dx (exd dx [(g, z), (f, y)])) a (exo a C (some dx)) := by
      funext b
      by_cases hb : b = a
      · subst hb; rw [upd_same, upd_same]
      · rw [upd_ne hb, upd_ne hb]
        by_cases hd : b = dx
        · subst hd; rw [upd_same, upd_same]
        · rw [upd_ne hd, upd_ne hd, upd_ne hb]
    rw [ee]
    have gA := Gr.new (m := []) (o := exd dx [(g, z), (f, y)]) g1.ih h1
    have hna : upd H1 dx (exd dx [(g, z), (f, y)]) a = none := by rw [upd_ne (Ne.symm h2)]; exact hn
    have gB := Gr.new (m := []) (o := exo a C (some dx)) gA.ih hna
    refine q _ _ _ ((g1.trans gA).trans gB) (.exn (xs := [z, y]) (.inl upd_same) (.inl ?_) rfl (.cons (rz.mono (gA.trans gB).i) (.cons (r.mono (gA.trans gB).i) .nil)))
    rw [upd_ne h2]; exact upd_same
theorem e_xv {ns : List Str} {ds : List D} {fl : List Str} (h : E K Γ te (.exn C ns ds)) (x : XOk' K C fl) (hf : f ∈ fl) (hl : (ns.zip ds).lookup f = some d) : E K Γ (tXv K te f) d := fun I σ H as e l Q q =>
  h I σ H as e l _ fun I1 H1 v g1 r1 => by
    cases r1 with
    | exn h1 h2 hn hr =>
      obtain ⟨v, hv, rv⟩ := lk_zip hr hl
      exact ⟨_, _, _, _, _, rfl, x.xf, x.no f hf, h1.mono g1.ih, h2.mono g1.ih, hv, q _ _ _ g1 rv⟩
end
end G

namespace G
open PySem PySem.Spec L2 PyProof.Rows
/-! ### try with several clauses, named or not; the caught exception is an object of ours -/
/-- what the clauses wish of an exception of the body, one after the other: the class, the slot of the name, the suite -/
def wMix (K : PySem.W.Frag) (Wout : WX) (D : Ends) : List (Value × Option Nat × TS) → WX
  | [] => Wout
  | (c, none, ts) :: r => fun cls d σ H => ∃ b, PySem.W.exmOne K cls c = some b ∧ (b = true → ∀ a, H a = none → ts D σ (upd H a (exx a cls d))) ∧ (b = false → wMix K Wout D r cls d σ H)
  | (c, some i, ts) :: r => fun cls d σ H => ∃ b, PySem.W.exmOne K cls c = some b ∧ (b = true → ∀ a, H a = none → ts { nx := fun σ' H' => D.nx (σ'.set i none) H', rt := D.rt, bk := fun σ' H' => D.bk (σ'.set i none) H', ct := fun σ' H' => D.ct (σ'.set i none) H' } (σ.set i (some (.ref a))) (upd H a (exx a cls d))) ∧
      (b = false → wMix K Wout D r cls d σ H)
inductive HdsMix (X : Cx) : List ExceptHandler → List (Value × Option Nat × TS) → Prop
  | nil : HdsMix X [] []
  | cons {x : Str} {c : Value} {ts : TS} {b₀ : Stmt} {suite : List Stmt} {np pos' : Pos} {hds : List ExceptHandler} {l : List (Value × Option Nat × TS)} (hc : Names X x c)
      (hsu : ∀ (a : Addr) (pn : List (Addr × Obj)), PSs (X.suite a pn) (b₀ :: suite) ts) (r : HdsMix X hds l) :
      HdsMix X (.ExceptHandler (some (.Name x np)) none (b₀ :: suite) pos' :: hds) ((c, none, ts) :: l)
  | consN {x n : Str} {i : Nat} {c : Value} {ts : TS} {b₀ : Stmt} {suite : List Stmt} {np pos' : Pos} {hds : List ExceptHandler} {l : List (Value × Option Nat × TS)} (hc : Names X x c) (hi : X.N[i]? = some n) (hln : X.env.kindOf n = some .local)
      (hsu : ∀ (a : Addr) (pn : List (Addr × Obj)), PSs (X.suite a pn) (b₀ :: suite) ts) (r : HdsMix X hds l) :
      HdsMix X (.ExceptHandler (some (.Name x np)) (some n) (b₀ :: suite) pos' :: hds) ((c, some i, ts) :: l)
section
variable {X : Cx} {pins : List (Addr × Obj)} {σ : L2.St} {H : Hp} {s sI s' : Shared} {B : Heap}
theorem landedX (I : Inv X pins σ H sI) (nb : ∀ b o, sI.heap.get? b = some o → b ∉ frs X.stack → B.get? b = some o) (st : B.StaysIn s'.heap) (up : sI.heap.UpToSlots s'.heap) (os : s'.os = sI.os) (ag : AllBare s'.gens)
    {a : Addr} {o : HO} (na : H a = none) (n0 : sI.heap.get? a = none) (new : ObjOk X.prog X.w (upd H a o) s'.heap a o) : Inv X pins σ (upd H a o) s' := by
  have nf : ∀ b ∈ frs X.stack, ∀ o, sI.heap.get? b = some o → ∃ sl, s'.heap.get? b = some { o with slots := sl } := fun b hb o e => by
    obtain ⟨_, o', e', hd⟩ := I.stack.mem hb
    rw [e] at e'; cases e'
    exact up b o e hd
  have ne : ∀ {b : Addr} {u : Obj}, sI.heap.get? b = some u → b ≠ a := fun e z => by rw [z, n0] at e; cases e
  have J := I.call (ch := []) (h' := s'.heap) (g' := s'.gens) (t' := s'.toks) (d' := s'.drawn) (H' := upd H a o)
    ⟨fun b o e _ hb _ => st b o (nb b o e hb), fun b o e _ hb _ => nf b hb o e, fun b u e n _ => by rw [upd_ne (ne e)]; exact n, fun b o e _ => by
      by_cases hb : b ∈ frs X.stack
      · obtain ⟨sl, q⟩ := nf b hb o e
        exact ⟨_, q⟩
      · exact ⟨o, st b o (nb b o e hb)⟩, fun b xs e => by rw [upd_ne (ne_of_none e na)]; exact e, fun b u v e => by rw [upd_ne (ne_of_none e na)]; exact e, fun b ps e => ⟨#[], by rw [upd_ne (ne_of_none e na), e]; simp⟩⟩
    (((I.inGround nb).kept st).laidN (fun _ _ z => z) na new) ag (fun _ z => nomatch z)
  obtain ⟨a1, a2, a3, a4, a5⟩ := s'
  have e5 : a5 = sI.os := os
  subst e5
  exact J
theorem suiteX (I : Inv X pins σ H s) {a : Addr} : Inv (X.suite a (X.pn ++ pins)) [] σ H s :=
  ⟨I.ok.suite _ _, I.os, I.bare, I.base, I.loc, I.cell, I.free, I.freeC, fun p hp => I.pin p (by rw [List.append_nil] at hp; exact hp), I.hok, I.len⟩
theorem unsuiteX {a : Addr} {pn' : List (Addr × Obj)} (I : Inv (X.suite a (X.pn ++ pins)) pn' σ H s) (ok : X.Ok) : Inv X pins σ H s :=
  ⟨ok, I.os, I.bare, I.base, I.loc, I.cell, I.free, I.freeC, fun p hp => I.pin p (List.mem_append_left _ hp), I.hok, I.len⟩
end
section
variable {X : Cx} {body : List Stmt} {h₀ : ExceptHandler} {hds : List ExceptHandler} {l : List (Value × Option Nat × TS)} {pos : Pos} {tb : WX → TS} {Wout : WX}
theorem ps_try_mix (hs : X.stack = X.env :: X.outer) (hf : X.env.frame = some X.env.locals) (hN : X.N.Nodup) (tk : Takes X Wout)
    (hb : ∀ (W : WX) (pn : List (Addr × Obj)) (xe : Value → Shared → Prop), Takes (X.tr pn xe) W → PassesOwn (model X.prog X.w) X.A X.env xe → PSs (X.tr pn xe) body (tb W))
    (hh : HdsMix X (h₀ :: hds) l) : PS X (.Try body (h₀ :: hds) [] [] pos) (fun D σ H => tb (wMix X.K Wout D l) D σ H) := by
  refine ⟨fun pins s σ H D I h => ?_⟩
  have ok := I.ok
  have hfr : X.A.frames = some (X.env :: X.outer) := by rw [ok.frames, hs]
  refine wpAny_Try_except ?_
  refine wpAny_mono ((hb (wMix X.K Wout D l) (X.pn ++ pins) (fun e s₁ => wpAny (model X.prog X.w) X.A (noteFrame e X.env) (fun _ s₂ => wpAny (model X.prog X.w) X.A (setFlight e none) (fun _ s₃ =>
    wpAny (model X.prog X.w) X.A (handleBy e X.env (h₀ :: hds)) (SP X pins D) X.xe s₃) X.xe s₂) X.xe s₁) (fun u s' xx => ?_) PassesOwn.looking).run [] s σ H D (I.toTry _) h) (fun f s1 hsp => ?_) (fun e s1 he => he)
  · -- the catch
    obtain ⟨a, B, sI, pins', σ', H', cls, d, rfl, J', nb, up, sky, na, os, ag, w⟩ := xx
    have J : Inv X pins σ' H' sI := J'.ofTry ok
    have sky' : Sky B (X.env :: X.outer) a (Zc cls d) X.env.locals s'.heap := by rw [← hs]; exact sky
    show wpAny (model X.prog X.w) X.A (noteFrame (.ref a) X.env) _ _ _
    refine Sky.land Zc.steady hfr hf sky' fun h3 fl3 up3 => ?_
    have J3 : Inv X pins σ' H' { s' with heap := h3 } := J.landed nb fl3.1 (up.trans up3) os ag
    obtain ⟨oe3, vs3, he3, hz3, hd3⟩ := fl3.there
    have notFr : ∀ {h : Heap} {o : Obj} {vs : Array Value}, h.FunFrames B (X.env :: X.outer) → h.get? a = some o → o.data = .fields vs → a ∉ frs (X.env :: X.outer) := fun {h o vs} ff e dd hm => by
      obtain ⟨_, o', e', hnf⟩ := ff.mem hm
      rw [e] at e'; cases e'
      exact hnf _ dd
    have nfr := notFr fl3.2.2.1 he3 hd3
    have nL : a ≠ X.env.locals := fun z => nfr (List.mem_filterMap.mpr ⟨X.env, List.mem_cons_self, by rw [hf, z]⟩)
    have nF : a ∉ X.fs := fun hm => by
      obtain ⟨e, he, q⟩ := List.mem_filterMap.mp hm
      exact nfr (List.mem_filterMap.mpr ⟨e, List.mem_cons_of_mem _ he, q⟩)
    have n0 : sI.heap.get? a = none := by
      cases q : sI.heap.get? a with
      | none => rfl
      | some o =>
        have z := nb a o q (by rw [hs]; exact nfr)
        rw [fl3.2.1] at z
        cases z
    have S3 := J3.suite he3 hd3 na nL nF
    have go : ∀ {hds' : List ExceptHandler} {l' : List (Value × Option Nat × TS)}, HdsMix X hds' l' → wMix X.K Wout D l' cls d σ' H' →
        wpAny (model X.prog X.w) X.A (handleBy (.ref a) X.env hds') (SP X pins D) X.xe { s' with heap := h3 } := by
      intro hds' l' hk
      have LT : PySem.W.Looks (model X.prog X.w) h3 (typeOf (.ref a)) cls := fun A Q E s k q => wpAny_typeOf_ref (k _ _ he3) (by rw [hz3.1]; exact q)
      have test : ∀ {x : Str} {c : Value} {np : Pos} {Q : Value → Shared → Prop} {E : Value → Shared → Prop}, Names X x c → Q c { s' with heap := h3 } → wpAny (model X.prog X.w) (X.A.mark (some (.ref a))) (eval (.Name x np) X.env) Q E { s' with heap := h3 } := fun {x c np Q E} hc q => by
        obtain ⟨hg, hdbg, hm | ⟨hm, hv, hnn⟩⟩ := hc
        · exact ld_glob (X := X.suite a ((a, oe3) :: (X.pn ++ pins))) S3 hg hm q hdbg
        · exact ld_blt (X := X.suite a ((a, oe3) :: (X.pn ++ pins))) S3 hg hm hv q hnn hdbg
      induction hk with
      | nil =>
        intro w
        refine wpAny_handleBy_nil ?_
        obtain ⟨k1, k2, k3, oe, vs, T, oT, ts', he, hz, hd, h1, hr⟩ := id fl3
        unfold PySem.passOn
        refine wpAny_bind (wpAny_field he hd h1 ?_)
        rw [if_neg (show ¬ ((Value.ref T == Value.none) = true) from by simp)]
        have fin : wpAny (model X.prog X.w) X.A (setFlight (.ref a) X.env.frame) (fun _ s4 => wpAny (model X.prog X.w) X.A (throw (.ref a) : Sem Flow) (SP X pins D) X.xe s4) X.xe { s' with heap := h3 } := by
          rw [hf]
          refine HandSPX.setFlight_upZ fl3 fun h4 hh4 up4 => wpAny_throw (tk _ _ ?_)
          exact ⟨a, B, sI, pins, σ', H', cls, d, rfl, J, nb, (up.trans up3).trans up4, .inr (.inr (by rw [hs]; exact hh4)), na, os, ag, w⟩
        first
          | exact wpAny_bind (wpAny_pure (wpAny_bind fin))
          | exact wpAny_bind fin
      | @cons x c ts b₀ suite np pos' hds2 l2 hc hsu r ih =>
        intro w
        obtain ⟨b, hb1, hyes, hno⟩ := w
        refine wpAny_handleBy_cons (codeAny_handlers_test ?_) (by intro q; cases q)
        have LM := PySem.W.exm_one (M := model X.prog X.w) (J3.kIn) LT hb1
        refine test hc (LM.here ?_)
        cases b with
        | true =>
          refine codeAny_handlers_suite ?_
          refine HandSPX.lands_againZ fl3 fun h4 fl4 up4 => ?_
          obtain ⟨oe4, vs4, he4, hz4, hd4⟩ := fl4.there
          have J4 := landedX (s' := { s' with heap := h4 }) J nb fl4.1 ((up.trans up3).trans up4) os ag na n0 (exx_ok (d := d) he4 hz4 hd4)
          refine wpAny_mono ((hsu a (X.pn ++ pins)).run [] _ _ _ _ (suiteX J4) (hyes rfl a na)) (fun f s6 hsp => ?_) (fun _ _ z => False.elim z)
          cases f with
          | next =>
            obtain ⟨σ6, H6, S6, q6⟩ := hsp
            exact ⟨_, _, unsuiteX S6 ok, q6⟩
          | brk =>
            obtain ⟨σ6, H6, S6, q6⟩ := hsp
            exact ⟨_, _, unsuiteX S6 ok, q6⟩
          | cont =>
            obtain ⟨σ6, H6, S6, q6⟩ := hsp
            exact ⟨_, _, unsuiteX S6 ok, q6⟩
          | ret u =>
            obtain ⟨v6, σ6, H6, S6, r6, q6⟩ := hsp
            exact ⟨_, _, _, unsuiteX S6 ok, r6, q6⟩
        | false =>
          show wpAny _ X.A (handleBy (.ref a) X.env hds2) _ _ _
          exact ih (hno rfl)
      | @consN x n i c ts b₀ suite np pos' hds2 l2 hc hi hln hsu r ih =>
        intro w
        obtain ⟨b, hb1, hyes, hno⟩ := w
        have hloc : Loc X.env.scope n := .inl hln
        refine wpAny_handleBy_cons (codeAny_handlers_test ?_) (by intro q; cases q)
        have LM := PySem.W.exm_one (M := model X.prog X.w) (J3.kIn) LT hb1
        refine test hc (LM.here ?_)
        cases b with
        | true =>
          refine codeAny_handlers_suite_as ?_
          refine HandSPX.lands_againZ fl3 fun h4 fl4 up4 => ?_
          obtain ⟨oe4, vs4, he4, hz4, hd4⟩ := fl4.there
          have J4 := landedX (s' := { s' with heap := h4 }) J nb fl4.1 ((up.trans up3).trans up4) os ag na n0 (exx_ok (d := d) he4 hz4 hd4)
          refine store_ok (X := X.suite a (X.pn ++ pins)) (v := .ref a) (suiteX J4) hN hi hloc rfl (fun s5 S5 => ?_) (.inr hln)
          refine wpAny_mono ((hsu a (X.pn ++ pins)).run [] s5 _ _ _ S5 (hyes rfl a na)) (fun f s6 hsp => ?_) (fun _ _ z => False.elim z)
          have end_ : ∀ {σ6 : L2.St} {H6 : Hp} {Q : Shared → Prop}, Inv (X.suite a (X.pn ++ pins)) [] σ6 H6 s6 → (∀ s7, Inv X pins (σ6.set i none) H6 s7 → Q s7) →
              wpAny (model X.prog X.w) X.A (do bindName X.env n .none; unbindBehindTheSuite X.env n pos') (fun _ s7 => Q s7) X.xe s6 := fun {σ6 H6 Q} S6 hq => gone_ok (unsuiteX S6 ok) hN hi hln hq
          cases f with
          | next =>
            obtain ⟨σ6, H6, S6, q6⟩ := hsp
            exact end_ S6 fun s7 J7 => ⟨_, _, J7, q6⟩
          | brk =>
            obtain ⟨σ6, H6, S6, q6⟩ := hsp
            exact end_ S6 fun s7 J7 => ⟨_, _, J7, q6⟩
          | cont =>
            obtain ⟨σ6, H6, S6, q6⟩ := hsp
            exact end_ S6 fun s7 J7 => ⟨_, _, J7, q6⟩
          | ret u =>
            obtain ⟨v6, σ6, H6, S6, r6, q6⟩ := hsp
            exact end_ S6 fun s7 J7 => ⟨_, _, _, J7, r6, q6⟩
        | false =>
          show wpAny _ X.A (handleBy (.ref a) X.env hds2) _ _ _
          exact ih (hno rfl)
    exact go hh w
  · cases f with
    | next =>
      obtain ⟨σ', H', J', q⟩ := hsp
      exact wpAny_execs_nil ⟨σ', H', J'.ofTry ok, q⟩
    | brk =>
      obtain ⟨σ', H', J', q⟩ := hsp
      exact ⟨σ', H', J'.ofTry ok, q⟩
    | cont =>
      obtain ⟨σ', H', J', q⟩ := hsp
      exact ⟨σ', H', J'.ofTry ok, q⟩
    | ret u =>
      obtain ⟨v, σ', H', J', r, q⟩ := hsp
      exact ⟨v, σ', H', J'.ofTry ok, r, q⟩
end
end G

namespace G
open PySem PySem.Spec L2
/-! ### defs that may raise -/
section
variable {P : Program} {w : World} {K : PySem.W.Frag} {mg : Str → Option Value} {base : Heap} {N : List Str} {qual : Str} {sc : Scope} {f : Addr} {cdv : Value} {A : Around} {outer : List Env} {s : Shared} {H : Hp} {E : XK}
theorem takes_cx : Takes (cxOf (L2.CX P w) P w K mg base N qual sc f cdv A outer s H E) (fun cls d _ H => E cls d H) := takes_of rfl rfl rfl rfl
theorem passes_cx : PassesOwn (model P w) (cxOf (L2.CX P w) P w K mg base N qual sc f cdv A outer s H E).A (cxOf (L2.CX P w) P w K mg base N qual sc f cdv A outer s H E).env (cxOf (L2.CX P w) P w K mg base N qual sc f cdv A outer s H E).xe := passes_of (X := cxOf (L2.CX P w) P w K mg base N qual sc f cdv A outer s H E) rfl
end
inductive Out where
  | ok (d : D) | ex (C : Addr) (ns : List Str) (ds : List D)
/-- what such a def keeps -/
def spX (K : PySem.W.Frag) (R : List D → Out → Prop) : Sp := fun vs H Q E => ∃ (I : Hp) (ds : List D), Ex I H ∧ Rps K I vs ds ∧ (∃ o, R ds o) ∧ (∀ d, R ds (.ok d) → ∀ I' H' v, Gr [] I H I' H' → Rp K I' v d → Q v H') ∧
  (∀ C ns es, R ds (.ex C ns es) → ∀ I' H' dx, Gr [] I H I' H' → XdAt K I' H' H dx ns es → E (.ref C) (some dx) H')
section
variable {ζ : Xz} {Γ : Sl} {k : D → Prop}
theorem en_callX {R : List D → Out → Prop} {ta : TA} (h : EAN ζ Γ ta fun ds => (∃ o, R ds o) ∧ (∀ d, R ds (.ok d) → k d) ∧ ∀ C ns es, R ds (.ex C ns es) → ζ.x C ns es) : EN ζ Γ (tCallS (spX ζ.K R) (WE ζ.W) ta) k := fun I σ H as e l zz Q q =>
  h I σ H as e l zz _ fun I1 H1 vs ds h1 g1 r1 => ⟨I1, ds, g1.ih, r1, h1.1, fun d hd I2 H2 v g2 r2 => q I2 H2 v d (h1.2.1 d hd) (g1.trans g2) r2,
    fun C ns es hx I2 H2 dx g2 x2 => zz I2 H2 C ns es dx (h1.2.2 C ns es hx) (g1.trans g2) (x2.back g1.th)⟩
end
section
variable {c : Cz} {Γ : Sl} {κ : Ks} {d d2 : D} {ds : List D}
/-- raise C(e) -/
theorem b_raise {C : Addr} {f : Str} {ta : TA} (h : EA c.K Γ ta [d]) (k : κ.ex Γ C [f] [d]) : B c Γ (fun _ σ H => tMkO C (spI C f) [] ta σ H fun cls d H' => c.W cls d σ H') κ := fun lb I σ H as De e a q =>
  h I σ H as a.gr.ih a.lo _ fun I1 H1 vs g1 r1 => ⟨by rw [r1.length]; exact Nat.le_of_ble_eq_true rfl, fun x hn => by
    cases r1 with
    | cons r r' =>
      cases r'
      rename_i y
      refine ⟨x, y, rfl, upd_same, fun dx h1 h2 => ⟨rfl, dx, [(f, y)], upd_same, by rw [upd_ne h2]; exact upd_same, by rw [upd_ne h2] at h1; exact h1, ?_⟩⟩
      rw [upd_ne h2] at h1
      have ee : upd (del (upd (upd (upd H1 x (exo x C none)) dx (exd dx [(f, y)])) x (exo x C (some dx))) x) dx (.xd [(f, y)]) = upd H1 dx (.xd [(f, y)]) := by
        funext b
        by_cases hb : b = dx
        · subst hb; rw [upd_same, upd_same]
        · rw [upd_ne hb, upd_ne hb]
          by_cases hx : b = x
          · subst hx; rw [del_same, hn]
          · rw [del_ne hx, upd_ne hx, upd_ne hb, upd_ne hx]
      rw [ee]
      have a1 := a.mono g1
      have nI : I1 dx = none := a1.gr.ih.free h1
      refine q.ex I1 σ _ as Γ C [f] [d] dx k (e.trans g1.i) (a1.mono (Gr.junk a1.gr.ih h1)) ⟨⟨[y], upd_same, rfl, .cons r .nil⟩, nI, ?_⟩
      cases z : c.H dx with
      | none => rfl
      | some o => exact absurd h1 (a1.gr.th dx (by rw [z]; exact nofun))⟩
theorem b_raise2 {C : Addr} {f g : Str} {ta : TA} (h : EA c.K Γ ta [d, d2]) (k : κ.ex Γ C [g, f] [d2, d]) : B c Γ (fun _ σ H => tMkO C (spI2 C f g) [] ta σ H fun cls d H' => c.W cls d σ H') κ := fun lb I σ H as De e a q =>
  h I σ H as a.gr.ih a.lo _ fun I1 H1 vs g1 r1 => ⟨by rw [r1.length]; exact Nat.le_of_ble_eq_true rfl, fun x hn => by
    cases r1 with
    | cons r r' =>
      cases r' with
      | cons rz r' =>
      cases r'
      rename_i y z
      refine ⟨x, y, z, rfl, upd_same, fun dx h1 h2 => ⟨rfl, dx, [(g, z), (f, y)], upd_same, by rw [upd_ne h2]; exact upd_same, by rw [upd_ne h2] at h1; exact h1, ?_⟩⟩
      rw [upd_ne h2] at h1
      have ee : upd (del (upd (upd (upd H1 x (exo x C none)) dx (exd dx [(g, z), (f, y)])) x (exo x C (some dx))) x) dx (.xd [(g, z), (f, y)]) = upd H1 dx (.xd [(g, z), (f, y)]) := by
        funext b
        by_cases hb : b = dx
        · subst hb; rw [upd_same, upd_same]
        · rw [upd_ne hb, upd_ne hb]
          by_cases hx : b = x
          · subst hx; rw [del_same, hn]
          · rw [del_ne hx, upd_ne hx, upd_ne hb, upd_ne hx]
      rw [ee]
      have a1 := a.mono g1
      have nI : I1 dx = none := a1.gr.ih.free h1
      refine q.ex I1 σ _ as Γ C [g, f] [d2, d] dx k (e.trans g1.i) (a1.mono (Gr.junk a1.gr.ih h1)) ⟨⟨[z, y], upd_same, rfl, .cons rz (.cons r .nil)⟩, nI, ?_⟩
      cases z : c.H dx with
      | none => rfl
      | some o => exact absurd h1 (a1.gr.th dx (by rw [z]; exact nofun))⟩
/-- what the clauses must do with an exception -/
def HsOk (c : Cz) (κ : Ks) : List (Value × Option Nat × TS) → Sl → Addr → List Str → List D → Prop
  | [], Γ, C, ns, ds => κ.ex Γ C ns ds
  | (v, none, ts) :: r, Γ, C, ns, ds => ∃ b, PySem.W.exmOne c.K (.ref C) v = some b ∧ (b = true → B c Γ ts { nx := κ.nx, rt := κ.rt, bk := κ.bk, ct := κ.ct }) ∧ (b = false → HsOk c κ r Γ C ns ds)
  | (v, some i, ts) :: r, Γ, C, ns, ds => ∃ b, PySem.W.exmOne c.K (.ref C) v = some b ∧ (b = true → B c (Γ.set i (some (.im (.exn C ns ds)))) ts { nx := fun Γ' => κ.nx (Γ'.set i none), rt := κ.rt, bk := fun Γ' => κ.bk (Γ'.set i none), ct := fun Γ' => κ.ct (Γ'.set i none) }) ∧ (b = false → HsOk c κ r Γ C ns ds)
theorem Lo.unset {K : PySem.W.Frag} {I H : Hp} {σ : St} {as : Nat → Addr} {i : Nat} (h : Lo K I σ H as Γ) : Lo K I (σ.set i none) H as (Γ.set i none) := by
  refine ⟨fun j s e => ?_, fun j k d e a b => ?_, by simp [h.len]⟩
  · rcases set_get e with ⟨_, e'⟩ | ⟨ne, e'⟩
    · cases e'
    · have q := h.at_ j s e'
      cases s with
      | im d => obtain ⟨w, e1, r1⟩ := q; exact ⟨w, by rw [List.getElem?_set_ne (Ne.symm ne)]; exact e1, r1⟩
      | mu d => obtain ⟨e1, r1⟩ := q; exact ⟨by rw [List.getElem?_set_ne (Ne.symm ne)]; exact e1, r1⟩
  · rcases set_get a with ⟨_, e'⟩ | ⟨_, a'⟩
    · cases e'
    · rcases set_get b with ⟨_, e'⟩ | ⟨_, b'⟩
      · cases e'
      · exact h.ne j k d e a' b'
theorem At.unset {I H : Hp} {σ : St} {as : Nat → Addr} {i : Nat} (a : At c I σ H as Γ) : At c I (σ.set i none) H as (Γ.set i none) :=
  ⟨a.gr, a.lo.unset, fun j d h => by
    rcases set_get h with ⟨_, e'⟩ | ⟨_, e'⟩
    · cases e'
    · exact a.ok j d e', a.fix⟩
/-- the exception and its dict are among what stays -/
theorem At.caught {I H : Hp} {σ : St} {as : Nat → Addr} {C dx x : Addr} {ns : List Str} (a : At c I σ H as Γ) (hd : XdAt c.K I H c.H dx ns ds) (hx : H x = none) :
    ∃ I', Ex I I' ∧ At c I' σ (upd H x (exx x (.ref C) (some dx))) as Γ ∧ Rp c.K I' (.ref x) (.exn C ns ds) := by
  obtain ⟨⟨vs, hv, hl, hr⟩, ni, n0⟩ := hd
  have e1 : Ex I (upd I dx (.xd (ns.zip vs))) := Ex.new ni
  have g1 : Gr (c.m.map (·.2)) c.I c.H (upd I dx (.xd (ns.zip vs))) H := a.gr.frz ni n0 hv
  have a1 : At c (upd I dx (.xd (ns.zip vs))) σ H as Γ := by
    refine ⟨g1, ⟨fun i s hs => ?_, a.lo.ne, a.lo.len⟩, a.ok, a.fix⟩
    have q := a.lo.at_ i s hs
    cases s with
    | im d => obtain ⟨v, h1, h2⟩ := q; exact ⟨v, h1, h2.mono e1⟩
    | mu d =>
      obtain ⟨h1, h2, o, h3, h4⟩ := q
      refine ⟨h1, ?_, o, h3, h4.mono e1⟩
      have : as i ≠ dx := fun z => by
        rw [z, hv] at h3
        cases h3
        cases h4
      rw [upd_ne this]; exact h2
  have g2 := Gr.new (m := []) (o := exx x (.ref C) (some dx)) g1.ih hx
  refine ⟨_, e1.trans g2.i, a1.mono g2, .exn (xs := vs) (.inr upd_same) (.inr ?_) hl (hr.mono (e1.trans g2.i))⟩
  have : dx ≠ x := fun z => by rw [z, hx] at hv; cases hv
  rw [upd_ne this]; exact upd_same
theorem b_try {tb : WX → TS} {l : List (Value × Option Nat × TS)} (h : ∀ W, B { c with W := W } Γ (tb W) { κ with ex := HsOk c κ l }) : B c Γ (fun D σ H => tb (wMix c.K c.W D l) D σ H) κ := fun lb I σ H as De e a k => by
  refine h (wMix c.K c.W De l) lb I σ H as De e ⟨a.gr, a.lo, a.ok, a.fix⟩ ⟨fun I1 σ1 H1 as1 Γ1 hk e1 a1 => k.nx I1 σ1 H1 as1 Γ1 hk e1 ⟨a1.gr, a1.lo, a1.ok, a1.fix⟩, k.rt, fun I1 σ1 H1 as1 Γ1 hk e1 a1 => k.bk I1 σ1 H1 as1 Γ1 hk e1 ⟨a1.gr, a1.lo, a1.ok, a1.fix⟩,
    fun I1 σ1 H1 as1 Γ1 hk e1 a1 => k.ct I1 σ1 H1 as1 Γ1 hk e1 ⟨a1.gr, a1.lo, a1.ok, a1.fix⟩, ?_⟩
  intro I1 σ1 H1 as1 Γ1 C ns ds dx hx e1 a0 hd
  have a1 : At c I1 σ1 H1 as1 Γ1 := ⟨a0.gr, a0.lo, a0.ok, a0.fix⟩
  show wMix c.K c.W De l (.ref C) (some dx) σ1 H1
  have hx' : HsOk c κ l Γ1 C ns ds := hx
  have hd' : XdAt c.K I1 H1 c.H dx ns ds := hd
  clear hx h hd a0
  have hd := hd'
  induction l with
  | nil => exact k.ex I1 σ1 H1 as1 Γ1 C ns ds dx hx' e1 a1 hd
  | cons p r ih =>
    obtain ⟨v, i, ts⟩ := p
    cases i with
    | none =>
      obtain ⟨b, hb, ht, hf⟩ := hx'
      refine ⟨b, hb, fun bt x hxn => ?_, fun bf => ih (hf bf)⟩
      obtain ⟨I2, e2, a2, _⟩ := a1.caught (C := C) hd hxn
      exact ht bt lb I2 σ1 _ as1 De (e1.trans e2) a2 ⟨k.nx, k.rt, k.bk, k.ct, fun _ _ _ _ _ _ _ _ _ h => h.elim⟩
    | some i =>
      obtain ⟨b, hb, ht, hf⟩ := hx'
      refine ⟨b, hb, fun bt x hxn => ?_, fun bf => ih (hf bf)⟩
      obtain ⟨I2, e2, a2, r2⟩ := a1.caught (C := C) hd hxn
      exact ht bt lb I2 _ _ as1 _ (e1.trans e2) (a2.set r2) ⟨fun I3 σ3 H3 as3 Γ3 h3 e3 a3 => k.nx I3 _ H3 as3 _ h3 e3 a3.unset, k.rt, fun I3 σ3 H3 as3 Γ3 h3 e3 a3 => k.bk I3 _ H3 as3 _ h3 e3 a3.unset,
        fun I3 σ3 H3 as3 Γ3 h3 e3 a3 => k.ct I3 _ H3 as3 _ h3 e3 a3.unset, fun _ _ _ _ _ _ _ _ _ h => h.elim⟩
end
/-! ### such a def of the text -/
structure CalleeX (P : Program) (w : World) (K : PySem.W.Frag) (mg : Str → Option Value) (base : Heap) (x : Str) (k : Nat) (ps : List Str) (R : List D → Out → Prop) : Prop where
  ex : ∃ f fd, FnOk P w K mg base (L2.CX P w) k f fd ps (spX K R) ∧ mg x = some (.ref f) ∧ PySem.W.keepIn K (.ref f) = true ∧ Binds K fd ps []
theorem ok_ofX {P : Program} {w : World} {K : PySem.W.Frag} {mg : Str → Option Value} {base : Heap} {x qual : Str} {st : Stmt} {f : Addr} {fd : FuncData} {N ps : List Str} {k : Nat} {R : List D → Out → Prop} (F : Fun K x qual st f fd) (S : FnScope N ps (defScope st)) (hn : ∀ ds o, R ds o → ds.length = ps.length)
    (hb : ∀ (cdv : Value) (A : Around) (outer : List Env) (s : Shared) (H : Hp) (E : XK), Room k (A.deeper (PyProof.Rows.envOfC qual (defScope st) s.heap.objs.size f cdv)) →
      ∃ t, PSs (cxOf (L2.CX P w) P w K mg base N qual (defScope st) f cdv A outer s H E) (defBody st) t ∧ ∀ (I H' : Hp) ds o, R ds o → B ⟨K, I, H', [], fun cls d _ H => E cls d H⟩ (slots N ds) t { nx := fun _ => R ds (.ok .non), rt := fun e _ => R ds (.ok e), ex := fun _ C ns es => R ds (.ex C ns es) }) :
    FnOk P w K mg base (L2.CX P w) (k + 1) f fd ps (spX K R) := by
  refine F.okX S (fun vs H Q E h => ?_) (fun cdv A outer s H vs Q E hr h => ?_)
  · obtain ⟨I, ds, _, r, ⟨o, hR⟩, _⟩ := h
    rw [r.length]; exact hn ds o hR
  · obtain ⟨I, ds, e, r, ⟨o, hR⟩, q, qx⟩ := h
    obtain ⟨t, ht, hB⟩ := hb cdv A outer s H E hr
    have nomu : ∀ (i : Nat) (d : D), (slots N ds)[i]? ≠ some (some (SV.mu d)) := fun i d h => by
      unfold slots at h
      rw [List.getElem?_append] at h
      split at h
      · rw [List.getElem?_map] at h
        cases q : ds[i]? with
        | none => rw [q] at h; cases h
        | some x => rw [q] at h; cases h
      · obtain ⟨a, b⟩ := List.getElem?_eq_some_iff.mp h
        rw [List.getElem_replicate] at b
        cases b
    exact ⟨t, ht, hB I H ds o hR I I _ H (fun _ => 0) _ (Ex.refl _) ⟨Gr.refl e, lo_start r, fun i d h => absurd h (nomu i d), fun p hp => nomatch hp⟩
      ⟨fun I1 σ1 H1 as Γ1 h1 _ a1 => q .non h1 I1 H1 .non a1.gr .non, fun I1 H1 Γ1 v e1 h1 _ g1 r1 _ => q e1 h1 I1 H1 v g1 r1, fun _ _ _ _ _ h => h.elim, fun _ _ _ _ _ h => h.elim, fun I1 σ1 H1 as Γ1 C ns es dx hx _ a1 hd => qx C ns es hx I1 H1 dx a1.gr hd⟩⟩
theorem ok_defX {P : Program} {w : World} {K : PySem.W.Frag} {mg : Str → Option Value} {base : Heap} {x qual : Str} {st : Stmt} {N ps : List Str} {k : Nat} {R : List D → Out → Prop} (F : DefAt K mg x qual st ps) (S : FnScope N ps (defScope st)) (hn : ∀ ds o, R ds o → ds.length = ps.length)
    (hb : ∀ (f : Addr) (cdv : Value) (A : Around) (outer : List Env) (s : Shared) (H : Hp) (E : XK), Room k (A.deeper (PyProof.Rows.envOfC qual (defScope st) s.heap.objs.size f cdv)) →
      ∃ t, PSs (cxOf (L2.CX P w) P w K mg base N qual (defScope st) f cdv A outer s H E) (defBody st) t ∧ ∀ (I H' : Hp) ds o, R ds o → B ⟨K, I, H', [], fun cls d _ H => E cls d H⟩ (slots N ds) t { nx := fun _ => R ds (.ok .non), rt := fun e _ => R ds (.ok e), ex := fun _ C ns es => R ds (.ex C ns es) }) :
    CalleeX P w K mg base x (k + 1) ps R := by
  obtain ⟨f, fd, F1, hm, b⟩ := F.ex
  exact ⟨f, _, ok_ofX F1 S hn (hb f), hm, F1.kp, b⟩
section
variable {X : Cx} {P : Program} {w : World} (K : PySem.W.Frag) {mg : Str → Option Value} {base : Heap} {x : Str} {C : Addr} {j k : Nat} {ps : List Str} {sp : Sp} {R : List D → Out → Prop} {p pos : Pos} {e : Expr} {es : List Expr} {t : TA} {W : WX}
theorem k_callX (c : CalleeX P w K mg base x k ps R) (hr : Room j X.A) (hk : k ≤ j) (tk : Takes X W) (hg : Gl X x) (ha : PA X (e :: es) t) (hdb : (x == ("__debug__" : Str)) = false := by decide)
    (he : starEach (e :: es) X.env = (false, eval e X.env) :: starEach es X.env := by rfl) (hpl : (backTo pos (starEach es X.env)).any (·.1) = false := by rfl)
    (hX : X.prog = P ∧ X.w = w ∧ X.K = K ∧ X.mg = mg ∧ X.base = base := by exact ⟨rfl, rfl, rfl, rfl, rfl⟩) :
    PE X (.Call (.Name x p) (e :: es) [] pos) (tCallS (spX K R) (WE W) t) := by
  obtain ⟨rfl, rfl, rfl, rfl, rfl⟩ := hX
  obtain ⟨f, fd, F, hm, kp, b⟩ := c.ex
  exact pe_callS F (hr.mono hk) hg hm kp b (passAt tk) ha hdb he hpl
theorem k_mkx (c : XCallee P w K mg base x C ps sp) (hr : Room j X.A) (hk : 2 ≤ j) (hg : Gl X x) (ha : PA X (e :: es) t) (hdb : (x == ("__debug__" : Str)) = false := by decide)
    (he : starEach (e :: es) X.env = (false, eval e X.env) :: starEach es X.env := by rfl) (hpl : (backTo pos (starEach es X.env)).any (·.1) = false := by rfl) (hx : Passes CX0 X E0 := by exact pass0)
    (hX : X.prog = P ∧ X.w = w ∧ X.K = K ∧ X.mg = mg ∧ X.base = base := by exact ⟨rfl, rfl, rfl, rfl, rfl⟩) :
    PMk X (.Call (.Name x p) (e :: es) [] pos) (tMkO C sp [] t) := by
  obtain ⟨rfl, rfl, rfl, rfl, rfl⟩ := hX
  obtain ⟨fI, fd, iC, tI, F, b⟩ := c.ex
  exact pmk_oex (ds := []) c.oc iC tI F (hr.mono hk) b .nil hx hg c.mg ha hdb he hpl
end
end G

namespace G
open PySem PySem.Spec L2
/-! ### instances of the program's own classes: fields -/
/-- e.f of an instance or an exception -/
def tAt (K : PySem.W.Frag) (te : TE) (f : Str) : TE := fun σ H Q => tFld K te f σ H Q ∨ tXv K te f σ H Q
section
variable {X : Cx} (K : PySem.W.Frag) {e o : Expr} {te tv : TE} {n f : Str} {pos pos' : Pos}
theorem k_at (he : PE X e te) (hb : attributeBase e n X.env (eval e X.env) = eval e X.env := by rfl) (hK : X.K = K := by rfl) : PE X (.Attribute e n pos) (tAt K te n) := by
  subst hK
  refine ⟨fun pins s σ H Q I h => ?_⟩
  rcases h with h | h
  · exact (pe_fld he hb).run pins s σ H Q I h
  · exact (pe_xv he hb).run pins s σ H Q I h
theorem k_setf {value : Expr} (ha : PE X o te) (hv : PE X value tv) (hs : swapsWith value (some (.Attribute o f pos')) pos.line X.env = pure false := by rfl) (hK : X.K = K := by rfl) : PS X (.Assign [.Attribute o f pos'] value pos) (sFld K te tv f) := by
  subst hK; exact ps_fld ha hv hs
end
section
variable {K : PySem.W.Frag} {Γ : Sl} {te : TE} {d : D} {C : Addr} {f : Str} {ns : List Str} {ds : List D} {ζ : Xz}
theorem e_at (h : E K Γ te (.obj C ns ds)) (c : Cls K C) (n : NoAttr K C f) (hl : (ns.zip ds).lookup f = some d) : E K Γ (tAt K te f) d := fun I σ H as e l Q q => by
  refine .inl (h I σ H as e l _ fun I1 H1 v g1 r1 => ?_)
  cases r1 with
  | obj h1 hn hr =>
    obtain ⟨v, hv, rv⟩ := lk_zip hr hl
    exact ⟨_, C, _, _, v, rfl, g1.ih _ _ h1, c, n, hv, q I1 H1 v g1 rv⟩
/-- a field of an instance that may change -/
theorem e_atM {i : Nat} (hi : Γ[i]? = some (some (.mu (.obj C ns ds)))) (c : Cls K C) (n : NoAttr K C f) (hl : (ns.zip ds).lookup f = some d) : E K Γ (tAt K (tVar i) f) d := fun I σ H as e l Q q => by
  obtain ⟨hv, hn, o, ho, r⟩ := l.at_ i _ hi
  cases r with
  | ins hl2 hr =>
    obtain ⟨v, hv2, rv⟩ := lk_zip hr hl
    exact .inl ⟨_, hv, _, C, _, _, v, rfl, ho, c, n, hv2, q I H v (Gr.refl e) rv⟩
theorem e_atX {fl : List Str} (h : E K Γ te (.exn C ns ds)) (x : XOk' K C fl) (hf : f ∈ fl) (hl : (ns.zip ds).lookup f = some d) : E K Γ (tAt K te f) d := fun I σ H as e l Q q => .inr (e_xv h x hf hl I σ H as e l Q q)
theorem putF_new {f : Str} {y : V} : ∀ {ns : List Str} {vs : List V}, ns.length = vs.length → f ∉ ns → putF f y (ns.zip vs) = (ns ++ [f]).zip (vs ++ [y])
  | [], [], _, _ => rfl
  | [], _ :: _, h, _ => by cases h
  | _ :: _, [], h, _ => by cases h
  | n :: ns, v :: vs, h, hf => by
    rw [List.zip_cons_cons, List.cons_append, List.cons_append, List.zip_cons_cons, ← putF_new (by simpa using h) (fun z => hf (List.mem_cons_of_mem _ z))]
    show (if n = f then _ else _) = _
    rw [if_neg (fun z : n = f => hf (by rw [← z]; exact List.mem_cons_self))]
end
section
variable {c : Cz} {Γ : Sl} {κ : Ks} {d : D} {ds : List D} {C : Addr} {ns : List Str} {f : Str} {tv : TE}
/-- self.f = e, a new field -/
theorem b_setf {i : Nat} (hi : Γ[i]? = some (some (.mu (.obj C ns ds)))) (cl : Cls c.K C) (n : NoAttr c.K C f) (hf : f ∉ ns) (hl : ns.length < 1000) (h : E c.K Γ tv d) (k : κ.nx (Γ.set i (some (.mu (.obj C (ns ++ [f]) (ds ++ [d])))))) : B c Γ (sFld c.K (tVar i) tv f) κ := fun lb I σ H as De e a q => by
  refine h I σ H as a.gr.ih a.lo _ fun I1 H1 y g r1 => ?_
  have a1 := a.mono g
  obtain ⟨hv, hn, o, ho, r⟩ := a1.lo.at_ i _ hi
  cases r with
  | ins hl2 hr =>
    rename_i dx vs
    refine ⟨_, hv, _, C, _, _, rfl, ho, cl, n, ?_, ?_⟩
    · rw [List.length_zip, ← hl2, Nat.min_self]; exact hl
    · rw [putF_new hl2 hf]
      exact q.nx I1 _ _ as _ k (e.trans g.i) (a1.put hi (.ins (by rw [List.length_append, List.length_append, hl2]; rfl) (hr.append (.one r1))))
end
/-! ### making an instance, its methods, where exceptions may leave -/
def tMakeS (C : Addr) (sp : Sp) (dvs : List V) (E : St → XK) (t : TA) : TE := fun σ H Q => t σ H fun vs H1 => ∀ x dx, H1 x = none → H1 dx = none → dx ≠ x →
  sp (.ref x :: (vs ++ dvs)) (upd (upd H1 dx (.own x)) x (.ins C dx [])) (fun v H2 => v = .non ∧ Q (.ref x) H2) (E σ)
def tMethS (C : Addr) (m : Str) (sp : Sp) (E : St → XK) (ta : TE) (t : TA) : TE := fun σ H Q => ta σ H fun x H1 => ∃ a dx fs, x = .ref a ∧ H1 a = some (.ins C dx fs) ∧ fs.lookup m = none ∧
  t σ H1 fun vs H2 => sp (x :: vs) H2 Q (E σ)
section
variable {X : Cx} {CX : CXT} {k : Nat} {f C : Addr} {fd : FuncData} {ps : List Str} {sp : Sp} {dvs : List V} {ds : List Value} {E : St → XK} {x m : Str} {p pos apos : Pos} {e o : Expr} {es : List Expr} {ta : TE} {t : TA}
theorem run_makeS {pins : List (Addr × Obj)} {σ : L2.St} {H : Hp} {s : Shared} {Q : VK} {us : List Value} {vs : List V} (M : Mk X.K C f) (F : FnOk X.prog X.w X.K X.mg X.base CX k f fd ps sp) (hr : Room (k + 1) X.A) (hb : Binds X.K fd ps ds) (hd : Vals dvs ds)
    (hx : PassesAt CX X σ (E σ)) (I : Inv X pins σ H s) (r : Vals vs us)
    (h : ∀ x dx, H x = none → H dx = none → dx ≠ x → sp (.ref x :: (vs ++ dvs)) (upd (upd H dx (.own x)) x (.ins C dx [])) (fun v H2 => v = .non ∧ Q (.ref x) H2) (E σ)) :
    wpAny (model X.prog X.w) X.A (call (.ref C) us) (L2.EP X pins σ Q) X.xe s := by
  have hq := h (s.heap.objs.size + 1) s.heap.objs.size (I.hok.fresh (Nat.le_succ _)) (I.hok.fresh (Nat.le_refl _)) (Nat.ne_of_lt (Nat.lt_succ_self _))
  have I2 := Inv.made (C := C) I
  have r2 : Vals (V.ref (s.heap.objs.size + 1) :: (vs ++ dvs)) (Value.ref (s.heap.objs.size + 1) :: (us ++ ds)) := .cons rfl (r.append hd)
  have hl : (Value.ref (s.heap.objs.size + 1) :: us ++ ds).length = ps.length := by
    have e := r2.length
    rw [F.len _ _ _ _ hq] at e
    exact e.symm
  refine wpAny_call (make_map (f := f) I.kIn M.makes M.init (beq_iff_eq.mp M.fn) (codeAny_mono (F.run _ X.stack _ _ ⟨Value.ref (s.heap.objs.size + 1) :: us, []⟩ (Value.ref (s.heap.objs.size + 1) :: (us ++ ds)) _ _ (E σ) (hr.make C us [])
    (I2.env0.make C us []) (hb _ (Value.ref (s.heap.objs.size + 1) :: us) I2.kIn hl) r2 hq) fun r s' hq' => ?_))
  cases r with
  | error e => exact hx pins _ _ e s' I2 hq'
  | ok fl =>
    cases fl with
    | ret u =>
      obtain ⟨v, H', I3, rv, ev, q3⟩ := I2.after hq'
      subst ev
      exact ⟨rv, ⟨V.ref (s.heap.objs.size + 1), H', I3, rfl, q3⟩⟩
    | next => exact False.elim hq'
    | brk => exact False.elim hq'
    | cont => exact False.elim hq'
theorem pe_makeS (M : Mk X.K C f) (F : FnOk X.prog X.w X.K X.mg X.base CX k f fd ps sp) (hr : Room (k + 1) X.A) (hg : Gl X x) (hm : X.mg x = some (.ref C)) (hb : Binds X.K fd ps ds) (hd : Vals dvs ds) (hx : ∀ σ, PassesAt CX X σ (E σ))
    (ha : PA X (e :: es) t) (hdb : (x == ("__debug__" : Str)) = false := by decide) (he : starEach (e :: es) X.env = (false, eval e X.env) :: starEach es X.env := by rfl) (hpl : (backTo pos (starEach es X.env)).any (·.1) = false := by rfl) :
    PE X (.Call (.Name x p) (e :: es) [] pos) (tMakeS C sp dvs E t) := by
  refine ⟨fun pins s σ H Q I h => ?_⟩
  refine wpAny_Call_Name_kw (ld_glob I hg hm ?_ hdb)
  refine PySem.W.callWith_K (h₀ := X.base) I.ok.mod.kin M.kp (thn (ha.run pos pins s σ H _ I h) fun us s1 ⟨vs, H1, I1, r, q⟩ => ⟨I1.kIn, ?_⟩) he hpl
  exact run_makeS M F hr hb hd (hx σ) I1 r q
theorem pe_methS {pl : Sem Bool} (he : PE X o ta) (c : Cls X.K C) (hm : Meth X.K C m f) (F : FnOk X.prog X.w X.K X.mg X.base CX k f fd ps sp) (hr : Room k X.A) (hb : Binds X.K fd ps []) (hx : ∀ σ, PassesAt CX X σ (E σ)) (ha : PA X (e :: es) t)
    (hst : starEach (e :: es) X.env = (false, eval e X.env) :: starEach es X.env := by rfl) (hpl : (backTo pos (starEach es X.env)).any (·.1) = false := by rfl)
    (ht : eval (.Call (.Attribute o m apos) (e :: es) [] pos) X.env = (do
      let ov ← eval o X.env
      standAt apos.atName
      let (f, first) ← holding [ov] (getMethod ov m pl)
      callWith pos f first (backTo pos (starEach (e :: es) X.env)) (backToKw pos (keywordEach [] X.env))) := by rfl) :
    PE X (.Call (.Attribute o m apos) (e :: es) [] pos) (tMethS C m sp E ta t) := by
  refine ⟨fun pins s σ H Q I h => ?_⟩
  refine PySem.W.methodCall_KW (pl := pl) (thn (he.run pins s σ H _ I h) fun u s1 ⟨x, H1, I1, rx, a, dx, fs, ex, ea, l, q⟩ => ?_) ht
  subst ex
  obtain rfl : u = Value.ref a := rx
  refine getmeth_ok I1 ea c hm l ?_
  refine PySem.W.callWith_K (first := [.ref a]) (h₀ := X.base) I.ok.mod.kin hm.kp (thn (ha.run pos pins s1 σ H1 _ I1 q) fun us s2 ⟨vs, H2, I2, r, q2⟩ => ⟨I2.kIn, ?_⟩) hst hpl
  exact run_fnS (us := .ref a :: us) (vs := .ref a :: vs) F hr hb (hx σ) I2 (.cons rfl r) q2
theorem pe_methS0 {pl : Sem Bool} (he : PE X o ta) (c : Cls X.K C) (hm : Meth X.K C m f) (F : FnOk X.prog X.w X.K X.mg X.base CX k f fd ps sp) (hr : Room k X.A) (hb : Binds X.K fd ps []) (hx : ∀ σ, PassesAt CX X σ (E σ))
    (ht : eval (.Call (.Attribute o m apos) [] [] pos) X.env = (do
      let ov ← eval o X.env
      standAt apos.atName
      let (f, first) ← holding [ov] (getMethod ov m pl)
      callWith pos f first (backTo pos (starEach [] X.env)) (backToKw pos (keywordEach [] X.env))) := by rfl) :
    PE X (.Call (.Attribute o m apos) [] [] pos) (tMethS C m sp E ta tNil) := by
  refine ⟨fun pins s σ H Q I h => ?_⟩
  refine PySem.W.methodCall_KW (pl := pl) (thn (he.run pins s σ H _ I h) fun u s1 ⟨x, H1, I1, rx, a, dx, fs, ex, ea, l, q⟩ => ?_) ht
  subst ex
  obtain rfl : u = Value.ref a := rx
  refine getmeth_ok I1 ea c hm l ?_
  exact PySem.W.callWith_K0 (first := [.ref a]) I1.kIn hm.kp (run_fnS (us := [.ref a]) (vs := [.ref a]) F hr hb (hx σ) I1 (.cons rfl .nil) q)
end
end G

namespace G
open PySem PySem.Spec L2
/-- what an own __init__ keeps: R tells of the arguments the instance made, or what is raised -/
def spM (K : PySem.W.Frag) (C : Addr) (R : List D → Out → Prop) : Sp := fun vs H Q E => ∃ (I : Hp) (x : Addr) (rest : List V) (ds : List D) (dx : Addr), vs = .ref x :: rest ∧ Ex I H ∧ I x = none ∧ H x = some (.ins C dx []) ∧ Rps K I rest ds ∧ (∃ o, R ds o) ∧
  (∀ ns es, R ds (.ok (.obj C ns es)) → ∀ I' H' dx' vs', Gr [x] I H I' H' → I' x = none → H' x = some (.ins C dx' (ns.zip vs')) → ns.length = vs'.length → Rps K I' vs' es → Q .non H') ∧
  (∀ C' ns es, R ds (.ex C' ns es) → ∀ I' H' d', Gr [x] I H I' H' → XdAt K I' H' H d' ns es → E (.ref C') (some d') H')
section
variable {ζ : Xz} {Γ : Sl} {k : D → Prop} {C : Addr} {m : Str} {ns : List Str} {es : List D} {te : TE} {ta : TA}
theorem Gr.made {I H I' H' : Hp} {x dx : Addr} {o u : HO} (hx : H x = none) (hd : H dx = none) (g : Gr [x] I (upd (upd H dx u) x o) I' H') (e : Ex I H) : Gr [] I H I' H' where
  i := g.i
  ih := g.ih
  h := fun a v _ q => by
    have na : a ≠ x := ne_of_none q hx
    have nd : a ≠ dx := ne_of_none q hd
    exact g.h a v (by simpa using na) (by rw [upd_ne na, upd_ne nd]; exact q)
  th := fun a q => g.th a (by
    have na : a ≠ x := fun z => q (z ▸ hx)
    have nd : a ≠ dx := fun z => q (z ▸ hd)
    rw [upd_ne na, upd_ne nd]; exact q)
  fr := fun a q => g.fr a (by
    have na : a ≠ x := fun z => q (z ▸ hx)
    have nd : a ≠ dx := fun z => q (z ▸ hd)
    rw [upd_ne na, upd_ne nd]; exact q)
theorem en_makeX {R : List D → Out → Prop} {dvs : List V} {dds : List D} (hd : ∀ I, Rps ζ.K I dvs dds) (h : EAN ζ Γ ta fun ds => (∃ o, R (ds ++ dds) o) ∧ (∀ ns es, R (ds ++ dds) (.ok (.obj C ns es)) → k (.obj C ns es)) ∧ ∀ C' ns es, R (ds ++ dds) (.ex C' ns es) → ζ.x C' ns es) :
    EN ζ Γ (tMakeS C (spM ζ.K C R) dvs (WE ζ.W) ta) k := fun I σ H as e l zz Q q =>
  h I σ H as e l zz _ fun I1 H1 vs ds h1 g1 r1 x dx hx hdx hne => by
    have ex0 : Ex I1 (upd (upd H1 dx (.own x)) x (.ins C dx [])) := (g1.ih.trans (Ex.new hdx)).trans (Ex.new (by rw [upd_ne (Ne.symm hne)]; exact hx))
    refine ⟨I1, x, vs ++ dvs, ds ++ dds, dx, rfl, ex0, g1.ih.free hx, upd_same, r1.append (hd I1), h1.1, fun ns es hR I' H' dx' vs' g ni hH hl hr => ⟨rfl, ?_⟩, fun C' ns es hR I' H' d' g hx' => ?_⟩
    · have g2 := Gr.made hx hdx g g1.ih
      have g3 := (g1.trans g2).frz ni (g1.ex.free hx) hH
      exact q _ H' (.ref x) _ (h1.2.1 ns es hR) g3 (.obj upd_same hl (hr.mono (Ex.new ni)))
    · refine zz I' H' C' ns es d' (h1.2.2 C' ns es hR) (g1.trans (Gr.made hx hdx g g1.ih)) (hx'.back fun a ha => ?_)
      have na : a ≠ x := fun z => ha (z ▸ g1.ex.free hx)
      have nd : a ≠ dx := fun z => ha (z ▸ g1.ex.free hdx)
      rw [upd_ne na, upd_ne nd]
      exact g1.th a ha
theorem lk_none {α : Type} {m : Str} : ∀ {ns : List Str} {vs : List α}, m ∉ ns → (ns.zip vs).lookup m = none
  | [], _, _ => by simp
  | _ :: _, [], _ => by simp
  | n :: ns, v :: vs, h => by
    rw [List.zip_cons_cons, lk_put, if_neg (fun z : m = n => h (by rw [z]; exact List.mem_cons_self))]
    exact lk_none fun z => h (List.mem_cons_of_mem _ z)
/-- o.m(..) -/
theorem en_methX {R : List D → Out → Prop} (h : EN ζ Γ te fun o => ∃ ns es, o = .obj C ns es ∧ m ∉ ns ∧ EAN ζ Γ ta fun ds => (∃ r, R (o :: ds) r) ∧ (∀ d, R (o :: ds) (.ok d) → k d) ∧ ∀ C' ns es, R (o :: ds) (.ex C' ns es) → ζ.x C' ns es) :
    EN ζ Γ (tMethS C m (spX ζ.K R) (WE ζ.W) te ta) k := fun I σ H as e l zz Q q =>
  h I σ H as e l zz _ fun I1 H1 v o h1 g1 r1 => by
    obtain ⟨ns, es, rfl, hm, h2⟩ := h1
    cases r1 with
    | obj ha hl hr =>
      refine ⟨_, _, _, rfl, g1.ih _ _ ha, lk_none hm, ?_⟩
      refine h2 I1 σ H1 as g1.ih (l.mono g1) (zz.mono g1) _ fun I2 H2 vs ds h3 g2 r2 => ?_
      refine ⟨I2, _, g2.ih, .cons (.obj (g2.i _ _ ha) hl (hr.mono g2.i)) r2, h3.1, fun d hd I3 H3 v g3 r3 => q I3 H3 v d (h3.2.1 d hd) ((g1.trans g2).trans g3) r3, fun C' ns' es' hx I3 H3 dx g3 x3 => ?_⟩
      exact zz I3 H3 C' ns' es' dx (h3.2.2 C' ns' es' hx) ((g1.trans g2).trans g3) (x3.back (g1.trans g2).th)
theorem Gr.unf {I I1 I' H H' : Hp} (g : Gr [] I1 H I' H') (e : Ex I I1) : Gr [] I H I H' := ⟨Ex.refl I, (e.trans g.i).trans g.ih, g.h, g.th, fun _ _ => rfl⟩
theorem Rps.flat {K : PySem.W.Frag} {I I' : Hp} : ∀ {vs : List V} {ds : List D}, Rps K I vs ds → (∀ d ∈ ds, flat d = true) → Rps K I' vs ds
  | _, _, .nil, _ => .nil
  | _, _, .cons r rs, h => .cons (r.flat (h _ List.mem_cons_self)) (Rps.flat rs fun d hd => h d (List.mem_cons_of_mem _ hd))
/-- self.m(..), self may still change; what comes back is flat -/
theorem en_methM {R : List D → Out → Prop} {i : Nat} (hi : Γ[i]? = some (some (.mu (.obj C ns es)))) (hm : m ∉ ns)
    (h : EAN ζ Γ ta fun ds => (∃ r, R (.obj C ns es :: ds) r) ∧ (∀ d, R (.obj C ns es :: ds) (.ok d) → flat d = true ∧ k d) ∧ ∀ C' ns' es', R (.obj C ns es :: ds) (.ex C' ns' es') → (∀ e ∈ es', flat e = true) ∧ ζ.x C' ns' es') :
    EN ζ Γ (tMethS C m (spX ζ.K R) (WE ζ.W) (tVar i) ta) k := fun I σ H as e l zz Q q => by
  obtain ⟨hv, hn, o, ho, r⟩ := l.at_ i _ hi
  cases r with
  | ins hl hr =>
    rename_i dx0 vs0
    refine ⟨_, hv, _, _, _, rfl, ho, lk_none hm, ?_⟩
    refine h I σ H as e l zz _ fun I1 H1 ws ds h3 g1 r2 => ?_
    have n1 : I1 (as i) = none := g1.none_i hn (by rw [ho]; exact nofun)
    have ho1 := g1.ex _ _ ho
    have e2 : Ex I1 (upd I1 (as i) (.ins C dx0 (ns.zip vs0))) := Ex.new n1
    have ih2 : Ex (upd I1 (as i) (.ins C dx0 (ns.zip vs0))) H1 := fun a u q => by
      by_cases z : a = as i
      · subst z; rw [upd_same] at q; rw [← q]; exact ho1
      · rw [upd_ne z] at q; exact g1.ih a u q
    refine ⟨_, _, ih2, .cons (.obj upd_same hl ((hr.mono g1.i).mono e2)) (r2.mono e2), h3.1, fun d hd I3 H3 v g3 r3 => ?_, fun C' ns' es' hx I3 H3 dx g3 x3 => ?_⟩
    · obtain ⟨fd, kd⟩ := h3.2.1 d hd
      exact q I1 H3 v d kd (g1.trans (g3.unf e2)) (r3.flat fd)
    · obtain ⟨fe, kx⟩ := h3.2.2 C' ns' es' hx
      obtain ⟨⟨ws', a1, a2, a3⟩, ni, n0⟩ := x3
      refine zz I1 H3 C' ns' es' dx kx (g1.trans (g3.unf e2)) (XdAt.back ⟨⟨ws', a1, a2, a3.flat fe⟩, (e2.trans g3.i).free ni, n0⟩ g1.th)
end
/-! ### such defs of the text -/
theorem FnOk.up {P : Program} {w : World} {K : PySem.W.Frag} {mg : Str → Option Value} {base : Heap} {CX : CXT} {k : Nat} {f : Addr} {fd : FuncData} {ps : List Str} {sp : Sp} (F : FnOk P w K mg base CX0 k f fd ps sp) : FnOk P w K mg base CX k f fd ps sp :=
  ⟨F.len, fun A outer s H args us vs Q E hr he hb r h => codeAny_mono (F.run A outer s H args us vs Q E hr he hb r h) fun r s' hq => by
    cases r with
    | error e => exact hq.elim
    | ok fl => cases fl <;> exact hq⟩
structure MCallee (P : Program) (w : World) (K : PySem.W.Frag) (mg : Str → Option Value) (base : Heap) (x : Str) (C : Addr) (k : Nat) (ps : List Str) (dvs : List V) (R : List D → Out → Prop) : Prop where
  ex : ∃ f fd ds, Mk K C f ∧ FnOk P w K mg base (L2.CX P w) k f fd ps (spM K C R) ∧ Binds K fd ps ds ∧ Vals dvs ds
  mg : mg x = some (.ref C)
structure Method (P : Program) (w : World) (K : PySem.W.Frag) (mg : Str → Option Value) (base : Heap) (C : Addr) (m : Str) (k : Nat) (ps : List Str) (R : List D → Out → Prop) : Prop where
  cl : Cls K C
  ex : ∃ f fd, Meth K C m f ∧ FnOk P w K mg base (L2.CX P w) k f fd ps (spX K R) ∧ Binds K fd ps []
section
variable {X : Cx} {P : Program} {w : World} (K : PySem.W.Frag) {mg : Str → Option Value} {base : Heap} {x m : Str} {C : Addr} {j k : Nat} {ps : List Str} {R : List D → Out → Prop} {p apos pos : Pos} {o e : Expr} {es : List Expr} {te : TE} {t : TA} {W : WX} {dvs : List V}
theorem k_make (c : MCallee P w K mg base x C k ps dvs R) (hr : Room j X.A) (hk : k + 1 ≤ j) (tk : Takes X W) (hg : Gl X x) (ha : PA X (e :: es) t) (hdb : (x == ("__debug__" : Str)) = false := by decide)
    (he : starEach (e :: es) X.env = (false, eval e X.env) :: starEach es X.env := by rfl) (hpl : (backTo pos (starEach es X.env)).any (·.1) = false := by rfl)
    (hX : X.prog = P ∧ X.w = w ∧ X.K = K ∧ X.mg = mg ∧ X.base = base := by exact ⟨rfl, rfl, rfl, rfl, rfl⟩) :
    PE X (.Call (.Name x p) (e :: es) [] pos) (tMakeS C (spM K C R) dvs (WE W) t) := by
  obtain ⟨rfl, rfl, rfl, rfl, rfl⟩ := hX
  obtain ⟨f, fd, ds, M, F, b, hv⟩ := c.ex
  exact pe_makeS M F (hr.mono hk) hg c.mg b hv (passAt tk) ha hdb he hpl
theorem k_meth {pl : Sem Bool} (c : Method P w K mg base C m k ps R) (hr : Room j X.A) (hk : k ≤ j) (tk : Takes X W) (ho : PE X o te) (ha : PA X (e :: es) t)
    (hst : starEach (e :: es) X.env = (false, eval e X.env) :: starEach es X.env := by rfl) (hpl : (backTo pos (starEach es X.env)).any (·.1) = false := by rfl)
    (ht : eval (.Call (.Attribute o m apos) (e :: es) [] pos) X.env = (do
      let ov ← eval o X.env
      standAt apos.atName
      let (f, first) ← holding [ov] (getMethod ov m pl)
      callWith pos f first (backTo pos (starEach (e :: es) X.env)) (backToKw pos (keywordEach [] X.env))) := by rfl)
    (hX : X.prog = P ∧ X.w = w ∧ X.K = K ∧ X.mg = mg ∧ X.base = base := by exact ⟨rfl, rfl, rfl, rfl, rfl⟩) :
    PE X (.Call (.Attribute o m apos) (e :: es) [] pos) (tMethS C m (spX K R) (WE W) te t) := by
  obtain ⟨rfl, rfl, rfl, rfl, rfl⟩ := hX
  obtain ⟨f, fd, M, F, b⟩ := c.ex
  exact pe_methS ho c.cl M F (hr.mono hk) b (passAt tk) ha hst hpl ht
theorem k_meth0 {pl : Sem Bool} (c : Method P w K mg base C m k ps R) (hr : Room j X.A) (hk : k ≤ j) (tk : Takes X W) (ho : PE X o te)
    (ht : eval (.Call (.Attribute o m apos) [] [] pos) X.env = (do
      let ov ← eval o X.env
      standAt apos.atName
      let (f, first) ← holding [ov] (getMethod ov m pl)
      callWith pos f first (backTo pos (starEach [] X.env)) (backToKw pos (keywordEach [] X.env))) := by rfl)
    (hX : X.prog = P ∧ X.w = w ∧ X.K = K ∧ X.mg = mg ∧ X.base = base := by exact ⟨rfl, rfl, rfl, rfl, rfl⟩) :
    PE X (.Call (.Attribute o m apos) [] [] pos) (tMethS C m (spX K R) (WE W) te tNil) := by
  obtain ⟨rfl, rfl, rfl, rfl, rfl⟩ := hX
  obtain ⟨f, fd, M, F, b⟩ := c.ex
  exact pe_methS0 ho c.cl M F (hr.mono hk) b (passAt tk) ht
end
end G

namespace G
open PySem PySem.Spec L2
theorem slots_nomu {N : List Str} {ds : List D} : ∀ (i : Nat) (d : D), (slots N ds)[i]? ≠ some (some (SV.mu d)) := fun i d h => by
  unfold slots at h
  rw [List.getElem?_append] at h
  split at h
  · rw [List.getElem?_map] at h
    cases q : ds[i]? with
    | none => rw [q] at h; cases h
    | some x => rw [q] at h; cases h
  · obtain ⟨a, b⟩ := List.getElem?_eq_some_iff.mp h
    rw [List.getElem_replicate] at b
    cases b
/-- the slots at the entry of an __init__: self without fields -/
def slotsM (N : List Str) (C : Addr) (ds : List D) : Sl := (slots N (.non :: ds)).set 0 (some (.mu (.obj C [] [])))
theorem slots0 {N : List Str} {a b : D} {ds : List D} {s : Option SV} : (slots N (a :: ds)).set 0 s = (slots N (b :: ds)).set 0 s := by
  unfold slots
  simp only [List.map_cons, List.cons_append, List.set_cons_zero, List.length_cons]
/-- THE RULE for an own __init__ -/
theorem ok_initM {P : Program} {w : World} {K : PySem.W.Frag} {mg : Str → Option Value} {base : Heap} {x qual : Str} {params : Arguments} {body : List Stmt} {scope : Scope} {dvs : List V} {f C : Addr} {fd : FuncData} {N ps : List Str} {k : Nat} {R : List D → Out → Prop}
    (F : FunD K x qual params body scope dvs [] f fd) (S : FnScope N ps scope) (hn : ∀ ds o, R ds o → ds.length + 1 = ps.length)
    (hb : ∀ (cdv : Value) (A : Around) (outer : List Env) (s : Shared) (H : Hp) (E : XK), Room k (A.deeper (PyProof.Rows.envOfC qual scope s.heap.objs.size f cdv)) →
      ∃ t, PSs (cxOf (L2.CX P w) P w K mg base N qual scope f cdv A outer s H E) body t ∧ ∀ (I H' : Hp) (x : Addr) ds o, R ds o → B ⟨K, I, H', [(0, x)], fun cls d _ H => E cls d H⟩ (slotsM N C ds) t
        { nx := fun Γ => ∃ ns es, Γ[0]? = some (some (.mu (.obj C ns es))) ∧ R ds (.ok (.obj C ns es)), rt := fun _ _ => False, ex := fun _ C' ns es => R ds (.ex C' ns es) }) :
    FnOk P w K mg base (L2.CX P w) (k + 1) f fd ps (spM K C R) := by
  refine F.ok S (fun vs H Q E h => ?_) (fun cdv A outer s H vs Q E hr h => ?_)
  · obtain ⟨I, x, rest, ds, dx, rfl, _, _, _, r, ⟨o, hR⟩, _⟩ := h
    rw [List.length_cons, r.length]; exact hn ds o hR
  · obtain ⟨I, x, rest, ds, dx, rfl, e, nx, hx, r, ⟨o, hR⟩, q, qx⟩ := h
    obtain ⟨t, ht, hB⟩ := hb cdv A outer s H E hr
    have l0 : Lo K I (start N (.ref x :: rest)) H (fun _ => x) (slots N (.ref x :: ds)) := by
      have l := lo_start (N := N) (H := H) (.cons (.ref x) r)
      refine ⟨fun i s hs => ?_, fun i j d d' h1 _ _ => absurd h1 (slots_nomu i d), l.len⟩
      cases s with
      | im d => exact l.at_ i _ hs
      | mu d => exact absurd hs (slots_nomu i d)
    have eΓ : slotsM N C ds = (slots N (.ref x :: ds)).set 0 (some (.mu (.obj C [] []))) := slots0
    have only : ∀ i d, (slotsM N C ds)[i]? = some (some (SV.mu d)) → i = 0 := fun i d h => by
      rw [eΓ] at h
      rcases set_get h with ⟨z, _⟩ | ⟨_, z⟩
      · exact z
      · exact absurd z (slots_nomu i d)
    have l1 : Lo K I (start N (.ref x :: rest)) H (fun _ => x) (slotsM N C ds) := by
      refine ⟨fun i s hs => ?_, fun i j d d' h1 h2 ne => absurd ((only i d h1).trans (only j d' h2).symm) ne, by rw [l0.len, eΓ, List.length_set]⟩
      rw [eΓ] at hs
      rcases set_get hs with ⟨rfl, z⟩ | ⟨_, z⟩
      · cases z
        exact ⟨rfl, nx, _, hx, MRp.ins (ns := []) (vs := []) rfl .nil⟩
      · exact l0.at_ i s z
    refine ⟨t, ht, hB I H x ds o hR I I _ H (fun _ => x) _ (Ex.refl _) ⟨Gr.refl e, l1, fun i d h => .inr (by rw [only i d h]; exact List.mem_cons_self), fun p hp => by
      rw [List.mem_singleton] at hp; rw [hp]⟩ ⟨fun I1 σ1 H1 as Γ1 h1 _ a1 => ?_, fun _ _ _ _ _ h => h.elim, fun _ _ _ _ _ h => h.elim, fun _ _ _ _ _ h => h.elim, fun I1 σ1 H1 as Γ1 C' ns es d hx' _ a1 hd => qx C' ns es hx' I1 H1 d a1.gr hd⟩⟩
    obtain ⟨ns, es, hΓ, hRo⟩ := h1
    obtain ⟨_, hn1, o1, ho1, hm⟩ := a1.lo.at_ 0 _ hΓ
    have hx0 : as 0 = x := a1.fix (0, x) List.mem_cons_self
    rw [hx0] at hn1 ho1
    cases hm with
    | ins hl hr1 => exact q ns es hRo I1 H1 _ _ a1.gr hn1 ho1 hl hr1
theorem Fun.toD {K : PySem.W.Frag} {x qual : Str} {st : Stmt} {f : Addr} {fd : FuncData} (F : Fun K x qual st f fd) : FunD K x qual (defArgs st) (defBody st) (defScope st) [] [] f fd := by
  obtain ⟨oc, od, kV, doc, pm, an, cdv, ct, osl, e, l, c⟩ := F.ex
  exact ⟨⟨oc, od, .none, kV, doc, pm, an, cdv, ct, osl, e, l, c, .inl ⟨rfl, rfl⟩, .inl rfl⟩, F.kp⟩
end G

namespace S
open PySem PySem.Spec L2
open G (Ex Gr ex_rd ex_l ex_t ExnAt exx exx_ok)
/-! ### names of classes and fields -/
def clsA (K : PySem.W.Frag) (n : String) : Option Addr := match PySem.W.nsIn K mainGlobals (Str.ofString n) with
  | some (some (.ref a)) => some a
  | _ => none
theorem ofS_inj {a b : String} (h : Str.ofString a = Str.ofString b) : a = b := by
  rw [Str.ofString_eq_toList, Str.ofString_eq_toList] at h
  have h1 : (a.toList.map Char.toNat).toArray = (b.toList.map Char.toNat).toArray := by injection h
  have h2 : a.toList.map Char.toNat = b.toList.map Char.toNat := by simpa using h1
  have h3 : a.toList = b.toList := List.map_inj_right (fun x y e => Char.toNat_inj.mp e) |>.mp h2
  exact String.toList_inj.mp h3
@[simp] theorem ofS_iff {a b : String} : Str.ofString a = Str.ofString b ↔ a = b := ⟨ofS_inj, fun h => h ▸ rfl⟩
/-- names as the heap has them -/
abbrev sN (ns : List String) : List Str := ns.map Str.ofString
theorem sN_lookup {α : Type} {f : String} : ∀ {ns : List String} {vs : List α}, ((sN ns).zip vs).lookup (Str.ofString f) = (ns.zip vs).lookup f
  | [], _ => by simp [sN]
  | _ :: _, [] => by simp [sN]
  | n :: ns, v :: vs => by
    have ih := sN_lookup (f := f) (ns := ns) (vs := vs)
    show ((Str.ofString n, v) :: (sN ns).zip vs).lookup (Str.ofString f) = ((n, v) :: ns.zip vs).lookup f
    rw [G.lk_put]
    by_cases h : f = n
    · subst h; simp
    · rw [if_neg (fun z => h (ofS_inj z)), ih]
      have : (f == n) = false := by simpa using h
      simp [List.lookup, this]
theorem sN_mem {f : String} {ns : List String} : Str.ofString f ∈ sN ns ↔ f ∈ ns := by
  constructor
  · intro h
    obtain ⟨n, hn, e⟩ := List.mem_map.mp h
    exact ofS_inj e ▸ hn
  · intro h
    exact List.mem_map.mpr ⟨f, h, rfl⟩
/-! ### data -/
inductive D where
  | non | bl (b : Bool) | int (i : Int) | str (s : Str) | lst (ds : List D) | tup (ds : List D)
  | dic (ks : List Key) (ds : List D) | dit (ks : List (List Key)) (ds : List D)
  | obj (C : String) (ns : List String) (ds : List D) | exn (C : String) (ns : List String) (ds : List D)
  | fl (ds : List D) | kt (ds : List D) | ty (n : String) | cl (n : String)
  deriving Inhabited
def ExdAt (I : Hp) (dx : Addr) (fs : List (Str × V)) : Prop := I dx = some (exd dx fs) ∨ I dx = some (.xd fs)
mutual
inductive Rp (K : PySem.W.Frag) (I : Hp) : V → D → Prop
  | non : Rp K I .non .non
  | bl (b : Bool) : Rp K I (.bl b) (.bl b)
  | int (i : Int) : Rp K I (.int i) (.int i)
  | str (x : Str) : Rp K I (.str x) (.str x)
  | lst {a : Addr} {xs : List V} {ds : List D} : I a = some (.lst xs) → Rps K I xs ds → Rp K I (.ref a) (.lst ds)
  | fl {a : Addr} {xs : List V} {ds : List D} : SqL K I a xs → Rps K I xs ds → Rp K I (.ref a) (.fl ds)
  | ty (n : String) : Rp K I (.ty n) (.ty n)
  | cl {n : String} {C : Addr} : clsA K n = some C → Rp K I (.ref C) (.cl n)
  | tup {a : Addr} {xs : List V} {ds : List D} : I a = some (.tup xs) → Rps K I xs ds → Rp K I (.ref a) (.tup ds)
  | kt {a : Addr} {xs : List V} {ds : List D} : SqT K I a xs → Rps K I xs ds → Rp K I (.ref a) (.kt ds)
  | dic {a : Addr} {ks : List Key} {xs : List V} {ds : List D} : I a = some (.dK (ks.zip xs)) → ks.length = xs.length → Rps K I xs ds → Rp K I (.ref a) (.dic ks ds)
  | dit {a : Addr} {ks : List (List Key)} {xs : List V} {ds : List D} : I a = some (.dT (ks.zip xs)) → ks.length = xs.length → Rps K I xs ds → Rp K I (.ref a) (.dit ks ds)
  | obj {a C dx : Addr} {n : String} {ns : List String} {xs : List V} {ds : List D} : clsA K n = some C → I a = some (.ins C dx ((sN ns).zip xs)) → ns.length = xs.length → Rps K I xs ds → Rp K I (.ref a) (.obj n ns ds)
  | exn {a C dx : Addr} {n : String} {ns : List String} {xs : List V} {ds : List D} : clsA K n = some C → ExnAt I a C dx → G.ExdAt I dx ((sN ns).zip xs) → ns.length = xs.length → Rps K I xs ds → Rp K I (.ref a) (.exn n ns ds)
inductive Rps (K : PySem.W.Frag) (I : Hp) : List V → List D → Prop
  | nil : Rps K I [] []
  | cons {v : V} {vs : List V} {d : D} {ds : List D} : Rp K I v d → Rps K I vs ds → Rps K I (v :: vs) (d :: ds)
end
section
variable {K : PySem.W.Frag} {I I' : Hp}
mutual
theorem Rp.mono (e : Ex I I') : ∀ {v : V} {d : D}, Rp K I v d → Rp K I' v d
  | _, _, .non => .non
  | _, _, .bl b => .bl b
  | _, _, .int i => .int i
  | _, _, .str x => .str x
  | _, _, .lst h r => .lst (e _ _ h) (Rps.mono e r)
  | _, _, .fl h r => .fl (ex_l e h) (Rps.mono e r)
  | _, _, .ty n => .ty n
  | _, _, .cl h => .cl h
  | _, _, .tup h r => .tup (e _ _ h) (Rps.mono e r)
  | _, _, .kt h r => .kt (ex_t e h) (Rps.mono e r)
  | _, _, .dic h l r => .dic (e _ _ h) l (Rps.mono e r)
  | _, _, .dit h l r => .dit (e _ _ h) l (Rps.mono e r)
  | _, _, .obj c h l r => .obj c (e _ _ h) l (Rps.mono e r)
  | _, _, .exn c h g l r => .exn c (h.mono e) (g.mono e) l (Rps.mono e r)
theorem Rps.mono (e : Ex I I') : ∀ {vs : List V} {ds : List D}, Rps K I vs ds → Rps K I' vs ds
  | _, _, .nil => .nil
  | _, _, .cons h r => .cons (Rp.mono e h) (Rps.mono e r)
end
theorem Rps.length : ∀ {vs : List V} {ds : List D}, Rps K I vs ds → vs.length = ds.length
  | _, _, .nil => rfl
  | _, _, .cons _ r => congrArg (· + 1) (Rps.length r)
theorem Rps.append : ∀ {vs ws : List V} {ds es : List D}, Rps K I vs ds → Rps K I ws es → Rps K I (vs ++ ws) (ds ++ es)
  | _, _, _, _, .nil, s => s
  | _, _, _, _, .cons h r, s => .cons h (Rps.append r s)
theorem Rps.get : ∀ {vs : List V} {ds : List D} {i : Nat} {d : D}, Rps K I vs ds → ds[i]? = some d → ∃ v, vs[i]? = some v ∧ Rp K I v d
  | _, _, _, _, .nil, e => by simp at e
  | _, _, 0, _, .cons h _, e => by simp at e; subst e; exact ⟨_, rfl, h⟩
  | _, _, i + 1, _, .cons _ r, e => by
    obtain ⟨v, h1, h2⟩ := Rps.get (i := i) r (by simpa using e)
    exact ⟨v, by simpa using h1, h2⟩
theorem Rps.getV : ∀ {vs : List V} {ds : List D} {i : Nat} {v : V}, Rps K I vs ds → vs[i]? = some v → ∃ d, ds[i]? = some d ∧ Rp K I v d
  | _, _, _, _, .nil, e => by simp at e
  | _, _, 0, _, .cons h _, e => by simp at e; subst e; exact ⟨_, rfl, h⟩
  | _, _, i + 1, _, .cons _ r, e => by
    obtain ⟨v, h1, h2⟩ := Rps.getV (i := i) r (by simpa using e)
    exact ⟨v, by simpa using h1, h2⟩
theorem Rps.take : ∀ {vs : List V} {ds : List D} (n : Nat), Rps K I vs ds → Rps K I (vs.take n) (ds.take n)
  | _, _, 0, _ => .nil
  | _, _, _ + 1, .nil => .nil
  | _, _, n + 1, .cons h r => .cons h (Rps.take n r)
theorem Rps.drop : ∀ {vs : List V} {ds : List D} (n : Nat), Rps K I vs ds → Rps K I (vs.drop n) (ds.drop n)
  | _, _, 0, r => r
  | _, _, _ + 1, .nil => .nil
  | _, _, n + 1, .cons _ r => Rps.drop n r
theorem Rps.set {v : V} {d : D} (h : Rp K I v d) : ∀ {vs : List V} {ds : List D} (n : Nat), Rps K I vs ds → Rps K I (vs.set n v) (ds.set n d)
  | _, _, _, .nil => .nil
  | _, _, 0, .cons _ r => .cons h r
  | _, _, n + 1, .cons q r => .cons q (Rps.set h n r)
theorem Rps.eraseIdx : ∀ {vs : List V} {ds : List D} (n : Nat), Rps K I vs ds → Rps K I (vs.eraseIdx n) (ds.eraseIdx n)
  | _, _, _, .nil => .nil
  | _, _, 0, .cons _ r => r
  | _, _, n + 1, .cons q r => .cons q (Rps.eraseIdx n r)
theorem Rps.reverse : ∀ {vs : List V} {ds : List D}, Rps K I vs ds → Rps K I vs.reverse ds.reverse
  | _, _, .nil => .nil
  | _, _, .cons q r => by rw [List.reverse_cons, List.reverse_cons]; exact (Rps.reverse r).append (.cons q .nil)
theorem Rps.one {v : V} {d : D} (h : Rp K I v d) : Rps K I [v] [d] := .cons h .nil
theorem Rps.dropLast {vs : List V} {ds : List D} (r : Rps K I vs ds) : Rps K I vs.dropLast ds.dropLast := by
  rw [List.dropLast_eq_take, List.dropLast_eq_take, r.length]; exact r.take _
inductive LD : D → List D → Prop
  | lst {ds : List D} : LD (.lst ds) ds
  | fl {ds : List D} : LD (.fl ds) ds
inductive LT : D → List D → Prop
  | tup {ds : List D} : LT (.tup ds) ds
  | kt {ds : List D} : LT (.kt ds) ds
theorem rps_ints : ∀ {vs : List V} {ns : List Int}, Rps K I vs (ns.map D.int) → vs = ns.map V.int
  | _, [], .nil => rfl
  | _, n :: ns, .cons (.int _) r => congrArg (V.int n :: ·) (rps_ints r)
theorem rps_of_ints : ∀ {ns : List Int}, Rps K I (ns.map V.int) (ns.map D.int)
  | [] => .nil
  | n :: ns => .cons (.int n) rps_of_ints
theorem rps_strs : ∀ {vs : List V} {ns : List Str}, Rps K I vs (ns.map D.str) → vs = ns.map V.str
  | _, [], .nil => rfl
  | _, n :: ns, .cons (.str _) r => congrArg (V.str n :: ·) (rps_strs r)
theorem rps_of_strs : ∀ {ns : List Str}, Rps K I (ns.map V.str) (ns.map D.str)
  | [] => .nil
  | n :: ns => .cons (.str n) rps_of_strs
theorem rps_bls : ∀ {vs : List V} {ns : List Bool}, Rps K I vs (ns.map D.bl) → vs = ns.map V.bl
  | _, [], .nil => rfl
  | _, n :: ns, .cons (.bl _) r => congrArg (V.bl n :: ·) (rps_bls r)
end
/-- an object that may change, all in it is data -/
inductive MRp (K : PySem.W.Frag) (I : Hp) : HO → D → Prop
  | lst {vs : List V} {ds : List D} (h : Rps K I vs ds) : MRp K I (.lst vs) (.lst ds)
  | dic {ks : List Key} {vs : List V} {ds : List D} (l : ks.length = vs.length) (h : Rps K I vs ds) : MRp K I (.dK (ks.zip vs)) (.dic ks ds)
  | dit {ks : List (List Key)} {vs : List V} {ds : List D} (l : ks.length = vs.length) (h : Rps K I vs ds) : MRp K I (.dT (ks.zip vs)) (.dit ks ds)
  | ins {C dx : Addr} {n : String} {ns : List String} {vs : List V} {ds : List D} (c : clsA K n = some C) (l : ns.length = vs.length) (h : Rps K I vs ds) : MRp K I (.ins C dx ((sN ns).zip vs)) (.obj n ns ds)
theorem MRp.mono {K : PySem.W.Frag} {I I' : Hp} (e : Ex I I') {o : HO} {d : D} (h : MRp K I o d) : MRp K I' o d := by
  cases h with
  | lst h => exact .lst (h.mono e)
  | dic l h => exact .dic l (h.mono e)
  | dit l h => exact .dit l (h.mono e)
  | ins c l h => exact .ins c l (h.mono e)
theorem MRp.rp {K : PySem.W.Frag} {I : Hp} {o : HO} {d : D} {a : Addr} (r : MRp K I o d) (h : I a = some o) : Rp K I (.ref a) d := by
  cases r with
  | lst r => exact .lst h r
  | dic l r => exact .dic h l r
  | dit l r => exact .dit h l r
  | ins c l r => exact .obj c h l r
/-- a value that is read: it stands for d now -/
inductive RpL (K : PySem.W.Frag) (I H : Hp) : V → D → Prop
  | p {v : V} {d : D} : Rp K I v d → RpL K I H v d
  | m {a : Addr} {o : HO} {d : D} : H a = some o → MRp K I o d → RpL K I H (.ref a) d
inductive RpLs (K : PySem.W.Frag) (I H : Hp) : List V → List D → Prop
  | nil : RpLs K I H [] []
  | cons {v : V} {vs : List V} {d : D} {ds : List D} : RpL K I H v d → RpLs K I H vs ds → RpLs K I H (v :: vs) (d :: ds)
section
variable {K : PySem.W.Frag} {I H : Hp} {v : V}
theorem RpL.int {i : Int} (r : RpL K I H v (.int i)) : v = .int i := by
  cases r with
  | p r => cases r; rfl
  | m _ r => cases r
theorem RpL.str {i : Str} (r : RpL K I H v (.str i)) : v = .str i := by
  cases r with
  | p r => cases r; rfl
  | m _ r => cases r
theorem RpL.bl {i : Bool} (r : RpL K I H v (.bl i)) : v = .bl i := by
  cases r with
  | p r => cases r; rfl
  | m _ r => cases r
theorem RpL.non (r : RpL K I H v .non) : v = .non := by
  cases r with
  | p r => cases r; rfl
  | m _ r => cases r
theorem RpL.ty {n : String} (r : RpL K I H v (.ty n)) : v = .ty n := by
  cases r with
  | p r => cases r; rfl
  | m _ r => cases r
theorem RpL.cl {n : String} (r : RpL K I H v (.cl n)) : ∃ C, v = .ref C ∧ clsA K n = some C := by
  cases r with
  | p r => cases r with | cl h => exact ⟨_, rfl, h⟩
  | m _ r => cases r
theorem RpL.lst {ds : List D} (e : Ex I H) (r : RpL K I H v (.lst ds)) : ∃ a vs, v = .ref a ∧ H a = some (.lst vs) ∧ Rps K I vs ds := by
  cases r with
  | p r => cases r with | lst h r => exact ⟨_, _, rfl, e _ _ h, r⟩
  | m h r => cases r with | lst r => exact ⟨_, _, rfl, h, r⟩
theorem RpL.l {d : D} {ds : List D} (e : Ex I H) (r : RpL K I H v d) (h : LD d ds) : ∃ a vs, v = .ref a ∧ SqL K H a vs ∧ Rps K I vs ds := by
  cases h with
  | lst => obtain ⟨a, vs, h1, h2, h3⟩ := r.lst e; exact ⟨a, vs, h1, .inl (.inl h2), h3⟩
  | fl =>
    cases r with
    | p r => cases r with | fl h r => exact ⟨_, _, rfl, ex_l e h, r⟩
    | m h r => cases r
theorem RpL.tup {ds : List D} (e : Ex I H) (r : RpL K I H v (.tup ds)) : ∃ a vs, v = .ref a ∧ I a = some (.tup vs) ∧ H a = some (.tup vs) ∧ Rps K I vs ds := by
  cases r with
  | p r => cases r with | tup h r => exact ⟨_, _, rfl, h, e _ _ h, r⟩
  | m h r => cases r
theorem RpL.t {d : D} {ds : List D} (e : Ex I H) (r : RpL K I H v d) (h : LT d ds) : ∃ a vs, v = .ref a ∧ SqT K I a vs ∧ SqT K H a vs ∧ Rps K I vs ds := by
  cases h with
  | tup => obtain ⟨a, vs, h1, h2, h3, h4⟩ := r.tup e; exact ⟨a, vs, h1, .inl (.inl h2), .inl (.inl h3), h4⟩
  | kt =>
    cases r with
    | p r => cases r with | kt h r => exact ⟨_, _, rfl, h, ex_t e h, r⟩
    | m h r => cases r
theorem RpL.dic {ks : List Key} {ds : List D} (e : Ex I H) (r : RpL K I H v (.dic ks ds)) : ∃ a vs, v = .ref a ∧ H a = some (.dK (ks.zip vs)) ∧ ks.length = vs.length ∧ Rps K I vs ds := by
  cases r with
  | p r => cases r with | dic h l r => exact ⟨_, _, rfl, e _ _ h, l, r⟩
  | m h r => cases r with | dic l r => exact ⟨_, _, rfl, h, l, r⟩
theorem RpL.dit {ks : List (List Key)} {ds : List D} (e : Ex I H) (r : RpL K I H v (.dit ks ds)) : ∃ a vs, v = .ref a ∧ H a = some (.dT (ks.zip vs)) ∧ ks.length = vs.length ∧ Rps K I vs ds := by
  cases r with
  | p r => cases r with | dit h l r => exact ⟨_, _, rfl, e _ _ h, l, r⟩
  | m h r => cases r with | dit l r => exact ⟨_, _, rfl, h, l, r⟩
theorem RpL.obj {n : String} {ns : List String} {ds : List D} (e : Ex I H) (r : RpL K I H v (.obj n ns ds)) : ∃ a C dx vs, v = .ref a ∧ clsA K n = some C ∧ H a = some (.ins C dx ((sN ns).zip vs)) ∧ ns.length = vs.length ∧ Rps K I vs ds := by
  cases r with
  | p r => cases r with | obj c h l r => exact ⟨_, _, _, _, rfl, c, e _ _ h, l, r⟩
  | m h r => cases r with | ins c l r => exact ⟨_, _, _, _, rfl, c, h, l, r⟩
theorem RpL.exn {n : String} {ns : List String} {ds : List D} (e : Ex I H) (r : RpL K I H v (.exn n ns ds)) : ∃ a C dx vs, v = .ref a ∧ clsA K n = some C ∧ ExnAt H a C dx ∧ G.ExdAt H dx ((sN ns).zip vs) ∧ ns.length = vs.length ∧ Rps K I vs ds := by
  cases r with
  | p r => cases r with | exn c h g l r => exact ⟨_, _, _, _, rfl, c, h.mono e, g.mono e, l, r⟩
  | m h r => cases r
end
theorem lk_zip {K : PySem.W.Frag} {I : Hp} {f : String} : ∀ {ns : List String} {vs : List V} {ds : List D} {d : D}, Rps K I vs ds → (ns.zip ds).lookup f = some d → ∃ v, (ns.zip vs).lookup f = some v ∧ Rp K I v d
  | [], _, _, _, _, h => by simp at h
  | _ :: _, _, _, _, .nil, h => by simp at h
  | n :: ns, _, _, d, .cons (v := v) (d := d') r rs, h => by
    rw [List.zip_cons_cons, List.lookup] at h
    rw [List.zip_cons_cons, List.lookup]
    cases e : f == n with
    | true => rw [e] at h; cases h; exact ⟨v, rfl, r⟩
    | false => rw [e] at h; exact lk_zip rs h
/-! ### the shadow's values, cells, states -/
inductive U where
  | d (x : D) | lc (j : Nat)
  deriving Inhabited
inductive Cell where
  | p (d : D) | n (us : List U) | gone
  deriving Inhabited
structure Sg where
  sl : List (Option U)
  mm : List Cell
  deriving Inhabited
structure Xn where
  C : String
  ns : List String
  ds : List D
  deriving Inhabited
inductive Rs (α : Type) where
  | st | ok (a : α) (g : Sg) | ex (x : Xn) (g : Sg)
  deriving Inhabited
def Rs.bind {α β : Type} (r : Rs α) (f : α → Sg → Rs β) : Rs β := match r with
  | .st => .st
  | .ok a g => f a g
  | .ex x g => .ex x g
@[simp] theorem Rs.bind_st {α β : Type} (f : α → Sg → Rs β) : (Rs.st : Rs α).bind f = .st := rfl
@[simp] theorem Rs.bind_ok {α β : Type} (a : α) (g : Sg) (f : α → Sg → Rs β) : (Rs.ok a g).bind f = f a g := rfl
@[simp] theorem Rs.bind_ex {α β : Type} (x : Xn) (g : Sg) (f : α → Sg → Rs β) : (Rs.ex x g : Rs α).bind f = .ex x g := rfl
inductive RU (K : PySem.W.Frag) (I : Hp) (as : Nat → Addr) (n : Nat) : V → U → Prop
  | d {v : V} {x : D} : Rp K I v x → RU K I as n v (.d x)
  | lc {j : Nat} : j < n → RU K I as n (.ref (as j)) (.lc j)
inductive RUs (K : PySem.W.Frag) (I : Hp) (as : Nat → Addr) (n : Nat) : List V → List U → Prop
  | nil : RUs K I as n [] []
  | cons {v : V} {vs : List V} {u : U} {us : List U} : RU K I as n v u → RUs K I as n vs us → RUs K I as n (v :: vs) (u :: us)
/-- a world: the part that never changes, the heap, where the cells lie -/
structure Wd where
  I : Hp
  H : Hp
  as : Nat → Addr
def live (mm : List Cell) (j : Nat) : Prop := ∃ c, mm[j]? = some c ∧ c ≠ .gone
theorem live_lt {mm : List Cell} {j : Nat} (h : live mm j) : j < mm.length := by
  obtain ⟨c, h, _⟩ := h
  exact (List.getElem?_eq_some_iff.mp h).1
/-- from m to m': what is no cell stays -/
structure Nx (m : Wd) (mm : List Cell) (m' : Wd) (mm' : List Cell) : Prop where
  ex : Ex m.I m'.I
  kp : ∀ a o, m.H a = some o → (∀ j, live mm j → m.as j ≠ a) → m'.H a = some o
  fr : ∀ a, m.H a ≠ none → (∀ j, live mm j → m.as j ≠ a) → m'.I a = m.I a
  th : ∀ a, m.H a ≠ none → m'.H a ≠ none
  as : ∀ j, j < mm.length → m'.as j = m.as j
  le : mm.length ≤ mm'.length
  nw : ∀ j, live mm' j → live mm j ∨ m.H (m'.as j) = none
theorem Nx.refl {m : Wd} {mm : List Cell} : Nx m mm m mm := ⟨Ex.refl _, fun _ _ h _ => h, fun _ _ _ => rfl, fun _ h => h, fun _ _ => rfl, Nat.le_refl _, fun _ h => .inl h⟩
theorem Nx.apart {m m1 : Wd} {mm mm1 : List Cell} (x : Nx m mm m1 mm1) {a : Addr} (h : m.H a ≠ none) (n : ∀ j, live mm j → m.as j ≠ a) : ∀ j, live mm1 j → m1.as j ≠ a := fun j hj z => by
  rcases x.nw j hj with h1 | h1
  · rw [x.as j (live_lt h1)] at z
    exact n j h1 z
  · rw [z] at h1; exact h h1
theorem Nx.trans {m m1 m2 : Wd} {mm mm1 mm2 : List Cell} (a : Nx m mm m1 mm1) (b : Nx m1 mm1 m2 mm2) : Nx m mm m2 mm2 where
  ex := a.ex.trans b.ex
  kp := fun x o h n => b.kp x o (a.kp x o h n) (a.apart (by rw [h]; exact nofun) n)
  fr := fun x h n => (b.fr x (a.th x h) (a.apart h n)).trans (a.fr x h n)
  th := fun x h => b.th x (a.th x h)
  as := fun j h => (b.as j (Nat.lt_of_lt_of_le h a.le)).trans (a.as j h)
  le := Nat.le_trans a.le b.le
  nw := fun j h => by
    rcases b.nw j h with h1 | h1
    · rcases a.nw j h1 with h2 | h2
      · exact .inl h2
      · right; rw [b.as j (live_lt h1)]; exact h2
    · right
      cases z : m.H (m2.as j) with
      | none => rfl
      | some o => exact absurd h1 (a.th _ (by rw [z]; exact nofun))
theorem Nx.g {I H I' H' : Hp} {as : Nat → Addr} {mm : List Cell} (g : Gr [] I H I' H') : Nx ⟨I, H, as⟩ mm ⟨I', H', as⟩ mm :=
  ⟨g.i, fun a o h _ => g.ex _ _ h, fun a h _ => g.fr a h, g.th, fun _ _ => rfl, Nat.le_refl _, fun _ h => .inl h⟩
section
variable {K : PySem.W.Frag} {I I' : Hp} {as as' : Nat → Addr} {n n' : Nat}
theorem RU.up (e : Ex I I') (ha : ∀ j, j < n → as' j = as j) (le : n ≤ n') {v : V} {u : U} (h : RU K I as n v u) : RU K I' as' n' v u := by
  cases h with
  | d r => exact .d (r.mono e)
  | lc h => rw [← ha _ h]; exact .lc (Nat.lt_of_lt_of_le h le)
theorem RUs.up (e : Ex I I') (ha : ∀ j, j < n → as' j = as j) (le : n ≤ n') : ∀ {vs : List V} {us : List U}, RUs K I as n vs us → RUs K I' as' n' vs us
  | _, _, .nil => .nil
  | _, _, .cons h r => .cons (h.up e ha le) (RUs.up e ha le r)
theorem RU.mono {m m' : Wd} {mm mm' : List Cell} (x : Nx m mm m' mm') {v : V} {u : U} (h : RU K m.I m.as mm.length v u) : RU K m'.I m'.as mm'.length v u := h.up x.ex x.as x.le
theorem RUs.mono {m m' : Wd} {mm mm' : List Cell} (x : Nx m mm m' mm') {vs : List V} {us : List U} (h : RUs K m.I m.as mm.length vs us) : RUs K m'.I m'.as mm'.length vs us := h.up x.ex x.as x.le
theorem RUs.length : ∀ {vs : List V} {us : List U}, RUs K I as n vs us → vs.length = us.length
  | _, _, .nil => rfl
  | _, _, .cons _ r => congrArg (· + 1) (RUs.length r)
theorem RUs.append : ∀ {vs ws : List V} {us ts : List U}, RUs K I as n vs us → RUs K I as n ws ts → RUs K I as n (vs ++ ws) (us ++ ts)
  | _, _, _, _, .nil, s => s
  | _, _, _, _, .cons h r, s => .cons h (RUs.append r s)
theorem RUs.get : ∀ {vs : List V} {us : List U} {i : Nat} {u : U}, RUs K I as n vs us → us[i]? = some u → ∃ v, vs[i]? = some v ∧ RU K I as n v u
  | _, _, _, _, .nil, e => by simp at e
  | _, _, 0, _, .cons h _, e => by simp at e; subst e; exact ⟨_, rfl, h⟩
  | _, _, i + 1, _, .cons _ r, e => by
    obtain ⟨v, h1, h2⟩ := RUs.get (i := i) r (by simpa using e)
    exact ⟨v, by simpa using h1, h2⟩
theorem RUs.set {v : V} {u : U} (h : RU K I as n v u) : ∀ {vs : List V} {us : List U} (k : Nat), RUs K I as n vs us → RUs K I as n (vs.set k v) (us.set k u)
  | _, _, _, .nil => .nil
  | _, _, 0, .cons _ r => .cons h r
  | _, _, k + 1, .cons q r => .cons q (RUs.set h k r)
theorem RUs.dropLast : ∀ {vs : List V} {us : List U}, RUs K I as n vs us → RUs K I as n vs.dropLast us.dropLast
  | _, _, .nil => .nil
  | _, _, .cons h .nil => .nil
  | _, _, .cons h (.cons h2 r) => .cons h (RUs.dropLast (.cons h2 r))
theorem RUs.of {vs : List V} {ds : List D} (r : Rps K I vs ds) : RUs K I as n vs (ds.map U.d) := by
  induction ds generalizing vs with
  | nil => cases r; exact .nil
  | cons d ds ih => cases r with | cons a b => exact .cons (.d a) (ih b)
end
/-- what cell j is in the heap -/
def CellOk (K : PySem.W.Frag) (I H : Hp) (as : Nat → Addr) (n : Nat) (a : Addr) : Cell → Prop
  | .p d => I a = none ∧ ∃ o, H a = some o ∧ MRp K I o d
  | .n us => I a = none ∧ ∃ vs, H a = some (.lst vs) ∧ RUs K I as n vs us
  | .gone => True
theorem CellOk.there {K : PySem.W.Frag} {I H : Hp} {as : Nat → Addr} {n : Nat} {a : Addr} {c : Cell} (h : CellOk K I H as n a c) (q : c ≠ .gone) : I a = none ∧ ∃ o, H a = some o := by
  cases c with
  | p d => exact ⟨h.1, h.2.imp fun o z => z.1⟩
  | n us => obtain ⟨h1, vs, h2, _⟩ := h; exact ⟨h1, _, h2⟩
  | gone => exact absurd rfl q
structure At (K : PySem.W.Frag) (σ : L2.St) (m : Wd) (Γ : Sg) : Prop where
  ih : Ex m.I m.H
  sl : ∀ (i : Nat) (u : U), Γ.sl[i]? = some (some u) → ∃ v : V, σ[i]? = some (some v) ∧ RU K m.I m.as Γ.mm.length v u
  mm : ∀ (j : Nat) (c : Cell), Γ.mm[j]? = some c → CellOk K m.I m.H m.as Γ.mm.length (m.as j) c
  ne : ∀ j k, live Γ.mm j → live Γ.mm k → j ≠ k → m.as j ≠ m.as k
  len : σ.length = Γ.sl.length
structure XdAt (K : PySem.W.Frag) (I H H0 : Hp) (dx : Addr) (ns : List String) (ds : List D) : Prop where
  at_ : ∃ vs : List V, H dx = some (.xd ((sN ns).zip vs)) ∧ ns.length = vs.length ∧ Rps K I vs ds
  ni : I dx = none
  n0 : H0 dx = none
theorem XdAt.back {K : PySem.W.Frag} {I H H0 H1 : Hp} {dx : Addr} {ns : List String} {ds : List D} (x : XdAt K I H H1 dx ns ds) (e : ∀ a, H0 a ≠ none → H1 a ≠ none) : XdAt K I H H0 dx ns ds :=
  ⟨x.at_, x.ni, by
    cases q : H0 dx with
    | none => rfl
    | some o => exact absurd x.n0 (e dx (by rw [q]; exact nofun))⟩
section
variable {K : PySem.W.Frag} {σ σ' : L2.St} {m m' : Wd} {I I' H H' : Hp} {as : Nat → Addr} {Γ : Sg}
theorem CellOk.mono {n : Nat} (g : Gr [] I H I' H') {a : Addr} {x : Cell} (h : CellOk K I H as n a x) : CellOk K I' H' as n a x := by
  cases x with
  | p d => obtain ⟨h1, o, h2, h3⟩ := h; exact ⟨g.none_i h1 (by rw [h2]; exact nofun), o, g.ex _ _ h2, h3.mono g.i⟩
  | n us => obtain ⟨h1, o, h2, h3⟩ := h; exact ⟨g.none_i h1 (by rw [h2]; exact nofun), o, g.ex _ _ h2, h3.up g.i (fun _ _ => rfl) (Nat.le_refl _)⟩
  | gone => trivial
theorem At.g (a : At K σ m Γ) (g : Gr [] m.I m.H I' H') : At K σ ⟨I', H', m.as⟩ Γ :=
  ⟨g.ih, fun i u h => by obtain ⟨v, h1, h2⟩ := a.sl i u h; exact ⟨v, h1, h2.up g.i (fun _ _ => rfl) (Nat.le_refl _)⟩, fun j x h => (a.mm j x h).mono g, a.ne, a.len⟩
/-- the slots changed -/
theorem At.sls (a : At K σ m Γ) {sl : List (Option U)} (h : ∀ (i : Nat) (u : U), sl[i]? = some (some u) → ∃ v : V, σ'[i]? = some (some v) ∧ RU K m.I m.as Γ.mm.length v u) (hl : σ'.length = sl.length) : At K σ' m ⟨sl, Γ.mm⟩ :=
  ⟨a.ih, h, a.mm, a.ne, hl⟩
theorem set_get {α : Type} {xs : List (Option α)} {i j : Nat} {a : Option α} {s : α} (h : (xs.set i a)[j]? = some (some s)) : (j = i ∧ a = some s ∧ i < xs.length) ∨ (j ≠ i ∧ xs[j]? = some (some s)) := by
  by_cases e : j = i
  · subst e
    left
    have hl := (List.getElem?_eq_some_iff.mp h).1
    rw [List.length_set] at hl
    rw [List.getElem?_set_self hl] at h
    exact ⟨rfl, by simpa using h, hl⟩
  · rw [List.getElem?_set_ne (Ne.symm e)] at h
    exact .inr ⟨e, h⟩
theorem At.set (a : At K σ m Γ) {i : Nat} {v : V} {u : U} (r : RU K m.I m.as Γ.mm.length v u) : At K (σ.set i (some v)) m ⟨Γ.sl.set i (some u), Γ.mm⟩ :=
  a.sls (fun j w h => by
    rcases set_get h with ⟨rfl, e, hl⟩ | ⟨ne, h⟩
    · cases e
      exact ⟨v, List.getElem?_set_self (by rw [a.len]; exact hl), r⟩
    · obtain ⟨v, h1, h2⟩ := a.sl j w h
      exact ⟨v, by rw [List.getElem?_set_ne (Ne.symm ne)]; exact h1, h2⟩) (by simp [a.len])
theorem At.unset (a : At K σ m Γ) {i : Nat} : At K (σ.set i none) m ⟨Γ.sl.set i none, Γ.mm⟩ :=
  a.sls (fun j w h => by
    rcases set_get h with ⟨rfl, e, hl⟩ | ⟨ne, h⟩
    · cases e
    · obtain ⟨v, h1, h2⟩ := a.sl j w h
      exact ⟨v, by rw [List.getElem?_set_ne (Ne.symm ne)]; exact h1, h2⟩) (by simp [a.len])
theorem At.forget (a : At K σ m Γ) {i : Nat} : At K σ m ⟨Γ.sl.set i none, Γ.mm⟩ :=
  a.sls (fun j w h => by
    rcases set_get h with ⟨rfl, e, hl⟩ | ⟨ne, h⟩
    · cases e
    · exact a.sl j w h) (by simp [a.len])
/-- a new cell -/
def updA (as : Nat → Addr) (i : Nat) (p : Addr) : Nat → Addr := fun j => if j = i then p else as j
theorem updA_same {as : Nat → Addr} {i : Nat} {p : Addr} : updA as i p i = p := if_pos rfl
theorem updA_ne {as : Nat → Addr} {i j : Nat} {p : Addr} (h : j ≠ i) : updA as i p j = as j := if_neg h
theorem push_at {mm : List Cell} {x y : Cell} {j : Nat} (h : (mm ++ [x])[j]? = some y) : (j < mm.length ∧ mm[j]? = some y) ∨ (j = mm.length ∧ y = x) := by
  rw [List.getElem?_append] at h
  split at h
  · rename_i hl; exact .inl ⟨hl, h⟩
  · rename_i hl
    right
    have : j - mm.length = 0 := by
      by_cases z : j - mm.length = 0
      · exact z
      · rw [List.getElem?_eq_none (by simp; omega)] at h; cases h
    rw [this] at h
    exact ⟨by omega, by simpa using h.symm⟩
theorem push_live {mm : List Cell} {x : Cell} {j : Nat} (h : live (mm ++ [x]) j) : (j < mm.length ∧ live mm j) ∨ j = mm.length := by
  obtain ⟨y, h, hy⟩ := h
  rcases push_at h with ⟨h1, h2⟩ | ⟨h1, _⟩
  · exact .inl ⟨h1, y, h2, hy⟩
  · exact .inr h1
/-- what lies at an address that no cell has becomes a cell -/
theorem At.push (a : At K σ m Γ) {p : Addr} {x : Cell} (hx : CellOk K m.I m.H m.as Γ.mm.length p x) (hq : x ≠ .gone) (hne : ∀ j, live Γ.mm j → m.as j ≠ p) : At K σ ⟨m.I, m.H, updA m.as Γ.mm.length p⟩ ⟨Γ.sl, Γ.mm ++ [x]⟩ := by
  have ha : ∀ j, j < Γ.mm.length → updA m.as Γ.mm.length p j = m.as j := fun j h => updA_ne (Nat.ne_of_lt h)
  have le : Γ.mm.length ≤ (Γ.mm ++ [x]).length := by rw [List.length_append]; exact Nat.le_add_right _ _
  have cl : ∀ {q : Addr} {y : Cell}, CellOk K m.I m.H m.as Γ.mm.length q y → CellOk K m.I m.H (updA m.as Γ.mm.length p) (Γ.mm ++ [x]).length q y := fun {q y} h => by
    cases y with
    | p d => exact h
    | n us => obtain ⟨h1, vs, h2, h3⟩ := h; exact ⟨h1, vs, h2, h3.up (Ex.refl _) ha le⟩
    | gone => trivial
  refine ⟨a.ih, fun i u h => ?_, fun j y h => ?_, fun j k hj hk ne => ?_, a.len⟩
  · obtain ⟨v, h1, h2⟩ := a.sl i u h
    exact ⟨v, h1, h2.up (Ex.refl _) ha le⟩
  · rcases push_at h with ⟨h1, h2⟩ | ⟨rfl, rfl⟩
    · show CellOk K m.I m.H _ _ (updA m.as Γ.mm.length p j) y
      rw [updA_ne (Nat.ne_of_lt h1)]; exact cl (a.mm j y h2)
    · show CellOk K m.I m.H _ _ (updA m.as Γ.mm.length p Γ.mm.length) y
      rw [updA_same]; exact cl hx
  · show updA m.as Γ.mm.length p j ≠ updA m.as Γ.mm.length p k
    rcases push_live hj with ⟨h1, h2⟩ | rfl
    · rw [updA_ne (Nat.ne_of_lt h1)]
      rcases push_live hk with ⟨h3, h4⟩ | rfl
      · rw [updA_ne (Nat.ne_of_lt h3)]; exact a.ne j k h2 h4 ne
      · rw [updA_same]; exact hne j h2
    · rw [updA_same]
      rcases push_live hk with ⟨h3, h4⟩ | rfl
      · rw [updA_ne (Nat.ne_of_lt h3)]; exact (hne k h4).symm
      · exact absurd rfl ne
theorem At.fresh (A : At K σ m Γ) {p : Addr} (hp : m.H p = none) : ∀ j, live Γ.mm j → m.as j ≠ p := fun j ⟨x, hx, hq⟩ z => by
  obtain ⟨_, o, ho⟩ := (A.mm j x hx).there hq
  rw [z, hp] at ho; cases ho
/-- a new object is laid and becomes a cell -/
theorem At.alloc (A : At K σ m Γ) {p : Addr} {o : HO} {x : Cell} (hp : m.H p = none) (hx : CellOk K m.I (upd m.H p o) m.as Γ.mm.length p x) (hq : x ≠ .gone) :
    At K σ ⟨m.I, upd m.H p o, updA m.as Γ.mm.length p⟩ ⟨Γ.sl, Γ.mm ++ [x]⟩ ∧ Nx m Γ.mm ⟨m.I, upd m.H p o, updA m.as Γ.mm.length p⟩ (Γ.mm ++ [x]) := by
  have g := Gr.junk (m := []) (o := o) A.ih hp
  refine ⟨(A.g g).push (x := x) hx hq (A.fresh hp), ⟨g.i, fun a o h _ => g.ex _ _ h, fun a h _ => g.fr a h, g.th, fun j h => updA_ne (Nat.ne_of_lt h), by rw [List.length_append]; exact Nat.le_add_right _ _, fun j h => ?_⟩⟩
  rcases push_live h with ⟨_, h1⟩ | rfl
  · exact .inl h1
  · right
    show m.H (updA m.as Γ.mm.length p Γ.mm.length) = none
    rw [updA_same]; exact hp
/-- cell j changes -/
theorem At.put (A : At K σ m Γ) {j : Nat} {o : HO} {x y : Cell} (h : Γ.mm[j]? = some x) (hx : x ≠ .gone) (hy : y ≠ .gone) (ho : CellOk K m.I (upd m.H (m.as j) o) m.as Γ.mm.length (m.as j) y) :
    At K σ ⟨m.I, upd m.H (m.as j) o, m.as⟩ ⟨Γ.sl, Γ.mm.set j y⟩ ∧ Nx m Γ.mm ⟨m.I, upd m.H (m.as j) o, m.as⟩ (Γ.mm.set j y) := by
  have hj := (List.getElem?_eq_some_iff.mp h).1
  have lj : live Γ.mm j := ⟨x, h, hx⟩
  obtain ⟨n0, o0, ho0⟩ := (A.mm j x h).there hx
  have lv : ∀ k, live (Γ.mm.set j y) k → live Γ.mm k := fun k ⟨z, hz, hq⟩ => by
    by_cases e : k = j
    · rw [e]; exact lj
    · rw [List.getElem?_set_ne (Ne.symm e)] at hz; exact ⟨z, hz, hq⟩
  have ih : Ex m.I (upd m.H (m.as j) o) := fun a u q => by
    have z : a ≠ m.as j := fun z => by rw [z, n0] at q; cases q
    rw [upd_ne z]; exact A.ih a u q
  refine ⟨⟨ih, fun i u h => ?_, fun k z hz => ?_, fun k l hk hl ne => A.ne k l (lv k hk) (lv l hl) ne, A.len⟩, ⟨Ex.refl _, fun a u hu n => ?_, fun _ _ _ => rfl, fun a hu => ?_, fun _ _ => rfl, by rw [List.length_set]; exact Nat.le_refl _, fun k hk => .inl (lv k hk)⟩⟩
  · obtain ⟨v, h1, h2⟩ := A.sl i u h
    exact ⟨v, h1, by rw [List.length_set]; exact h2⟩
  · show CellOk K m.I (upd m.H (m.as j) o) m.as (Γ.mm.set j y).length (m.as k) z
    rw [List.length_set]
    by_cases e : k = j
    · subst e
      rw [List.getElem?_set_self hj] at hz
      cases hz
      exact ho
    · rw [List.getElem?_set_ne (Ne.symm e)] at hz
      by_cases hg : z = .gone
      · subst hg; trivial
      · have ne := A.ne k j ⟨z, hz, hg⟩ lj e
        have q := A.mm k z hz
        cases z with
        | p d => obtain ⟨a1, o1, a2, a3⟩ := q; exact ⟨a1, o1, by rw [upd_ne ne]; exact a2, a3⟩
        | n us => obtain ⟨a1, o1, a2, a3⟩ := q; exact ⟨a1, o1, by rw [upd_ne ne]; exact a2, a3⟩
        | gone => trivial
  · show upd m.H (m.as j) o a = some u
    rw [upd_ne (Ne.symm (n j lj))]; exact hu
  · show upd m.H (m.as j) o a ≠ none
    by_cases e : a = m.as j
    · rw [e, upd_same]; exact nofun
    · rw [upd_ne e]; exact hu
end
end S

namespace S
open PySem PySem.Spec L2
open G (Ex Gr ex_l ex_t ExnAt exx exx_ok)
/-! ### what a reading must reach -/
abbrev Rel (α β : Type) := Wd → Nat → β → α → Prop
def Post {α β : Type} (K : PySem.W.Frag) (W : WX) (σ : L2.St) (m : Wd) (mm : List Cell) (rel : Rel α β) (r : Rs α) (Q : β → Hp → Prop) : Prop := match r with
  | .st => False
  | .ok a Γ' => ∀ m' b, Nx m mm m' Γ'.mm → At K σ m' Γ' → rel m' Γ'.mm.length b a → Q b m'.H
  | .ex x Γ' => ∀ m' C dx, Nx m mm m' Γ'.mm → At K σ m' Γ' → clsA K x.C = some C → XdAt K m'.I m'.H m.H dx x.ns x.ds → W (.ref C) (some dx) σ m'.H
def J {α β : Type} (K : PySem.W.Frag) (W : WX) (rel : Rel α β) (t : L2.St → Hp → (β → Hp → Prop) → Prop) (s : Sg → Rs α) : Prop :=
  ∀ (Γ : Sg) (σ : L2.St) (m : Wd), At K σ m Γ → ∀ Q, Post K W σ m Γ.mm rel (s Γ) Q → t σ m.H Q
theorem Post.tr {α β : Type} {K : PySem.W.Frag} {W : WX} {σ : L2.St} {m m1 : Wd} {mm mm1 : List Cell} {rel : Rel α β} {r : Rs α} {Q : β → Hp → Prop} (p : Post K W σ m mm rel r Q) (x : Nx m mm m1 mm1) : Post K W σ m1 mm1 rel r Q := by
  cases r with
  | st => exact p
  | ok a g => exact fun m' b nx A r => p m' b (x.trans nx) A r
  | ex e g => exact fun m' C dx nx A hc hd => p m' C dx (x.trans nx) A hc (hd.back x.th)
section
variable {α β α2 β2 : Type} {K : PySem.W.Frag} {W : WX} {rel : Rel α β} {rel2 : Rel α2 β2} {t : L2.St → Hp → (β → Hp → Prop) → Prop} {s : Sg → Rs α} {Γ : Sg} {σ : L2.St} {m : Wd}
theorem J.step (h : J K W rel t s) (A : At K σ m Γ) {f : α → Sg → Rs α2} {Q2 : β2 → Hp → Prop} {R : β → Hp → Prop} (p : Post K W σ m Γ.mm rel2 ((s Γ).bind f) Q2)
    (k : ∀ a Γ1 m1 b, Nx m Γ.mm m1 Γ1.mm → At K σ m1 Γ1 → rel m1 Γ1.mm.length b a → Post K W σ m1 Γ1.mm rel2 (f a Γ1) Q2 → R b m1.H) : t σ m.H R := by
  refine h Γ σ m A R ?_
  cases hs : s Γ with
  | st => rw [hs] at p; exact p
  | ex x Γ' => rw [hs] at p; exact p
  | ok a Γ1 => rw [hs] at p; exact fun m' b nx A1 r => k a Γ1 m' b nx A1 r (Post.tr p nx)
end
def rV (K : PySem.W.Frag) : Rel U V := fun m n v u => RU K m.I m.as n v u
def rA (K : PySem.W.Frag) : Rel (List U) (List V) := fun m n vs us => RUs K m.I m.as n vs us
def rEq {α : Type} : Rel α α := fun _ _ b a => b = a
abbrev SE (K : PySem.W.Frag) (W : WX) (te : TE) (s : Sg → Rs U) : Prop := J K W (rV K) te s
abbrev SA (K : PySem.W.Frag) (W : WX) (ta : TA) (s : Sg → Rs (List U)) : Prop := J K W (rA K) ta s
abbrev ST (K : PySem.W.Frag) (W : WX) (tt : TT) (s : Sg → Rs Bool) : Prop := J K W rEq tt s
abbrev SO (K : PySem.W.Frag) (W : WX) (to : TO) (s : Sg → Rs (Option Int)) : Prop := J K W rEq to s
/-! ### reading cells -/
def dr (mm : List Cell) : U → Option D
  | .d x => some x
  | .lc j => match mm[j]? with
    | some (.p d) => some d
    | _ => none
def drs (mm : List Cell) : List U → Option (List D)
  | [] => some []
  | u :: us => (dr mm u).bind fun d => (drs mm us).bind fun ds => some (d :: ds)
@[simp] theorem dr_d (mm : List Cell) (x : D) : dr mm (.d x) = some x := rfl
theorem At.dr {K : PySem.W.Frag} {σ : L2.St} {m : Wd} {Γ : Sg} (A : At K σ m Γ) {n : Nat} {v : V} {u : U} {x : D} (r : RU K m.I m.as n v u) (h : dr Γ.mm u = some x) : RpL K m.I m.H v x := by
  cases r with
  | d r => cases h; exact .p r
  | @lc j hj =>
    unfold S.dr at h
    cases q : Γ.mm[j]? with
    | none => simp only [q] at h; cases h
    | some y =>
      simp only [q] at h
      cases y with
      | p d =>
        cases h
        obtain ⟨_, o, h1, h2⟩ := A.mm j _ q
        exact .m h1 h2
      | n us => cases h
      | gone => cases h
theorem At.drs {K : PySem.W.Frag} {σ : L2.St} {m : Wd} {Γ : Sg} (A : At K σ m Γ) {n : Nat} : ∀ {vs : List V} {us : List U} {xs : List D}, RUs K m.I m.as n vs us → drs Γ.mm us = some xs → RpLs K m.I m.H vs xs
  | _, _, _, .nil, h => by cases h; exact .nil
  | _, _, _, .cons r rs, h => by
    unfold S.drs at h
    obtain ⟨d, h1, h⟩ := Option.bind_eq_some_iff.mp h
    obtain ⟨ds, h2, h⟩ := Option.bind_eq_some_iff.mp h
    cases h
    exact .cons (A.dr r h1) (A.drs rs h2)
/-- pure data alone -/
def pu : U → Option D
  | .d x => some x
  | .lc _ => none
def pus : List U → Option (List D)
  | [] => some []
  | u :: us => (pu u).bind fun d => (pus us).bind fun ds => some (d :: ds)
@[simp] theorem pu_d (x : D) : pu (.d x) = some x := rfl
theorem RU.pu {K : PySem.W.Frag} {I : Hp} {as : Nat → Addr} {n : Nat} {v : V} {u : U} {x : D} (r : RU K I as n v u) (h : pu u = some x) : Rp K I v x := by
  cases r with
  | d r => cases h; exact r
  | lc _ => cases h
theorem RUs.pu {K : PySem.W.Frag} {I : Hp} {as : Nat → Addr} {n : Nat} : ∀ {vs : List V} {us : List U} {xs : List D}, RUs K I as n vs us → pus us = some xs → Rps K I vs xs
  | _, _, _, .nil, h => by cases h; exact .nil
  | _, _, _, .cons r rs, h => by
    unfold S.pus at h
    obtain ⟨d, h1, h⟩ := Option.bind_eq_some_iff.mp h
    obtain ⟨ds, h2, h⟩ := Option.bind_eq_some_iff.mp h
    cases h
    exact .cons (r.pu h1) (rs.pu h2)
@[simp] theorem pus_map (ds : List D) : pus (ds.map U.d) = some ds := by
  induction ds with
  | nil => rfl
  | cons d ds ih => simp [pus, ih]
/-! ### ends: a value, a new cell -/
def ofO (o : Option D) (Γ : Sg) : Rs U := match o with
  | some d => .ok (.d d) Γ
  | none => .st
def ofA (o : Option D) (Γ : Sg) : Rs U := match o with
  | some d => .ok (.lc Γ.mm.length) ⟨Γ.sl, Γ.mm ++ [.p d]⟩
  | none => .st
@[simp] theorem ofO_some (d : D) (Γ : Sg) : ofO (some d) Γ = .ok (.d d) Γ := rfl
@[simp] theorem ofO_none (Γ : Sg) : ofO none Γ = .st := rfl
@[simp] theorem ofA_some (d : D) (Γ : Sg) : ofA (some d) Γ = .ok (.lc Γ.mm.length) ⟨Γ.sl, Γ.mm ++ [.p d]⟩ := rfl
@[simp] theorem ofA_none (Γ : Sg) : ofA none Γ = .st := rfl
section
variable {K : PySem.W.Frag} {W : WX} {Γ : Sg} {σ : L2.St} {m : Wd} {Q : VK}
theorem Post.o {o : Option D} (A : At K σ m Γ) (p : Post K W σ m Γ.mm (rV K) (ofO o Γ) Q) : ∃ d, o = some d ∧ ∀ I' H' w, Gr [] m.I m.H I' H' → Rp K I' w d → Q w H' := by
  cases o with
  | none => exact p.elim
  | some d => exact ⟨d, rfl, fun I' H' w g r => p ⟨I', H', m.as⟩ w (.g g) (A.g g) (.d r)⟩
theorem Post.a {o : Option D} (A : At K σ m Γ) (p : Post K W σ m Γ.mm (rV K) (ofA o Γ) Q) : ∃ d, o = some d ∧ ∀ a ob, m.H a = none → MRp K m.I ob d → Q (.ref a) (upd m.H a ob) := by
  cases o with
  | none => exact p.elim
  | some d =>
    refine ⟨d, rfl, fun a ob ha r => ?_⟩
    obtain ⟨B, nx⟩ := A.alloc (x := .p d) (o := ob) ha ⟨A.ih.free ha, ob, upd_same, r⟩ nofun
    have := p _ (.ref (updA m.as Γ.mm.length a Γ.mm.length)) nx B (.lc (by rw [List.length_append]; exact Nat.lt_succ_self _))
    rw [updA_same] at this
    exact this
end
/-! ### operations on data -/
def BinS (K : PySem.W.Frag) (r : R2) (f : D → D → Option D) : Prop := ∀ x y d, f x y = some d → ∀ (I H : Hp) (u v : V), Ex I H → RpL K I H u x → RpL K I H v y → ∀ Q : VK, (∀ I' H' w, Gr [] I H I' H' → Rp K I' w d → Q w H') → r u v H Q
def BinF (K : PySem.W.Frag) (r : R2) (f : D → D → Option D) : Prop := ∀ x y d, f x y = some d → ∀ (I H : Hp) (u v : V), Ex I H → RpL K I H u x → RpL K I H v y → ∀ Q : VK, (∀ a o, H a = none → MRp K I o d → Q (.ref a) (upd H a o)) → r u v H Q
def UnS (K : PySem.W.Frag) (r : V → Hp → VK → Prop) (f : D → Option D) : Prop := ∀ x d, f x = some d → ∀ (I H : Hp) (u : V), Ex I H → RpL K I H u x → ∀ Q : VK, (∀ I' H' w, Gr [] I H I' H' → Rp K I' w d → Q w H') → r u H Q
def CaS (K : PySem.W.Frag) (r : List V → Hp → VK → Prop) (f : List D → Option D) : Prop := ∀ xs d, f xs = some d → ∀ (I H : Hp) (us : List V), Ex I H → RpLs K I H us xs → ∀ Q : VK, (∀ I' H' w, Gr [] I H I' H' → Rp K I' w d → Q w H') → r us H Q
def CaF (K : PySem.W.Frag) (r : List V → Hp → VK → Prop) (f : List D → Option D) : Prop := ∀ xs d, f xs = some d → ∀ (I H : Hp) (us : List V), Ex I H → RpLs K I H us xs → ∀ Q : VK, (∀ a o, H a = none → MRp K I o d → Q (.ref a) (upd H a o)) → r us H Q
theorem fresh_q {K : PySem.W.Frag} {I H : Hp} {d : D} {Q : VK} (e : Ex I H) (q : ∀ I' H' w, Gr [] I H I' H' → Rp K I' w d → Q w H') : ∀ a o, H a = none → MRp K I o d → Q (.ref a) (upd H a o) := fun a o ha r =>
  q _ _ _ (Gr.new e ha) ((r.mono (Ex.new (e.free ha))).rp upd_same)
theorem BinF.s {K : PySem.W.Frag} {r : R2} {f : D → D → Option D} (h : BinF K r f) : BinS K r f := fun x y d hf I H u v e r1 r2 Q q => h x y d hf I H u v e r1 r2 Q (fresh_q e q)
theorem CaF.s {K : PySem.W.Frag} {r : List V → Hp → VK → Prop} {f : List D → Option D} (h : CaF K r f) : CaS K r f := fun xs d hf I H us e r1 Q q => h xs d hf I H us e r1 Q (fresh_q e q)
def sVar (i : Nat) : Sg → Rs U := fun Γ => match Γ.sl[i]? with
  | some (some u) => .ok u Γ
  | _ => .st
def sC (d : D) : Sg → Rs U := fun Γ => .ok (.d d) Γ
def sOp (f : D → D → Option D) (a b : Sg → Rs U) : Sg → Rs U := fun Γ => (a Γ).bind fun x Γ1 => (b Γ1).bind fun y Γ2 => ofO ((dr Γ2.mm x).bind fun x => (dr Γ2.mm y).bind fun y => f x y) Γ2
def sOpA (f : D → D → Option D) (a b : Sg → Rs U) : Sg → Rs U := fun Γ => (a Γ).bind fun x Γ1 => (b Γ1).bind fun y Γ2 => ofA ((dr Γ2.mm x).bind fun x => (dr Γ2.mm y).bind fun y => f x y) Γ2
def sUn (f : D → Option D) (a : Sg → Rs U) : Sg → Rs U := fun Γ => (a Γ).bind fun x Γ1 => ofO ((dr Γ1.mm x).bind f) Γ1
def sCb (f : List D → Option D) (a : Sg → Rs (List U)) : Sg → Rs U := fun Γ => (a Γ).bind fun xs Γ1 => ofO ((drs Γ1.mm xs).bind f) Γ1
def sCbA (f : List D → Option D) (a : Sg → Rs (List U)) : Sg → Rs U := fun Γ => (a Γ).bind fun xs Γ1 => ofA ((drs Γ1.mm xs).bind f) Γ1
def sNil : Sg → Rs (List U) := fun Γ => .ok [] Γ
def sCons (a : Sg → Rs U) (r : Sg → Rs (List U)) : Sg → Rs (List U) := fun Γ => (a Γ).bind fun x Γ1 => (r Γ1).bind fun xs Γ2 => .ok (x :: xs) Γ2
section
variable {K : PySem.W.Frag} {W : WX} {ta tb tc te : TE} {a b d s : Sg → Rs U}
theorem se_var {i : Nat} : SE K W (tVar i) (sVar i) := fun Γ σ m A Q p => by
  unfold sVar at p
  cases h : Γ.sl[i]? with
  | none => rw [h] at p; exact p.elim
  | some o =>
    cases o with
    | none => rw [h] at p; exact p.elim
    | some u =>
      rw [h] at p
      obtain ⟨v, hv, r⟩ := A.sl i u h
      exact ⟨v, hv, p m v .refl A r⟩
theorem se_c {v : V} {x : D} (h : ∀ I, Rp K I v x) : SE K W (tC v) (sC x) := fun Γ σ m A Q p => p m v .refl A (.d (h _))
theorem se_int {i : Int} : SE K W (tC (.int i)) (sC (.int i)) := se_c fun _ => .int i
theorem se_str {i : Str} : SE K W (tC (.str i)) (sC (.str i)) := se_c fun _ => .str i
theorem se_bl {i : Bool} : SE K W (tC (.bl i)) (sC (.bl i)) := se_c fun _ => .bl i
theorem se_non : SE K W (tC .non) (sC .non) := se_c fun _ => .non
theorem se_ty {n : String} : SE K W (tC (.ty n)) (sC (.ty n)) := se_c fun _ => .ty n
theorem se_op {r : R2} {f : D → D → Option D} (hr : BinS K r f) (h1 : SE K W ta a) (h2 : SE K W tb b) : SE K W (tOp r ta tb) (sOp f a b) := fun Γ σ m A Q p => by
  refine h1.step A p fun x Γ1 m1 v n1 A1 r1 p1 => h2.step A1 p1 fun y Γ2 m2 w n2 A2 r2 p2 => ?_
  obtain ⟨d, hd, q⟩ := p2.o A2
  obtain ⟨x', hx, hd⟩ := Option.bind_eq_some_iff.mp hd
  obtain ⟨y', hy, hd⟩ := Option.bind_eq_some_iff.mp hd
  exact hr x' y' d hd m2.I m2.H v w A2.ih (A2.dr (RU.mono n2 r1) hx) (A2.dr r2 hy) Q q
theorem se_opA {r : R2} {f : D → D → Option D} (hr : BinF K r f) (h1 : SE K W ta a) (h2 : SE K W tb b) : SE K W (tOp r ta tb) (sOpA f a b) := fun Γ σ m A Q p => by
  refine h1.step A p fun x Γ1 m1 v n1 A1 r1 p1 => h2.step A1 p1 fun y Γ2 m2 w n2 A2 r2 p2 => ?_
  obtain ⟨d, hd, q⟩ := p2.a A2
  obtain ⟨x', hx, hd⟩ := Option.bind_eq_some_iff.mp hd
  obtain ⟨y', hy, hd⟩ := Option.bind_eq_some_iff.mp hd
  exact hr x' y' d hd m2.I m2.H v w A2.ih (A2.dr (RU.mono n2 r1) hx) (A2.dr r2 hy) Q q
theorem se_un {r : V → Hp → VK → Prop} {f : D → Option D} (hr : UnS K r f) (h1 : SE K W ta a) : SE K W (tUn r ta) (sUn f a) := fun Γ σ m A Q p => by
  refine h1.step A p fun x Γ1 m1 v n1 A1 r1 p1 => ?_
  obtain ⟨d, hd, q⟩ := p1.o A1
  obtain ⟨x', hx, hd⟩ := Option.bind_eq_some_iff.mp hd
  exact hr x' d hd m1.I m1.H v A1.ih (A1.dr r1 hx) Q q
theorem sa_nil : SA K W tNil sNil := fun Γ σ m A Q p => p m [] .refl A .nil
theorem sa_cons {tr : TA} {r : Sg → Rs (List U)} (h1 : SE K W ta a) (h2 : SA K W tr r) : SA K W (tCons ta tr) (sCons a r) := fun Γ σ m A Q p => by
  refine h1.step A p fun x Γ1 m1 v n1 A1 r1 p1 => h2.step A1 p1 fun y Γ2 m2 w n2 A2 r2 p2 => ?_
  exact p2 m2 (v :: w) .refl A2 (.cons (RU.mono n2 r1) r2)
theorem se_cb {tr : TA} {r : Sg → Rs (List U)} {rr : List V → Hp → VK → Prop} {f : List D → Option D} (hr : CaS K rr f) (h1 : SA K W tr r) : SE K W (tCB rr tr) (sCb f r) := fun Γ σ m A Q p => by
  refine h1.step A p fun x Γ1 m1 v n1 A1 r1 p1 => ?_
  obtain ⟨d, hd, q⟩ := p1.o A1
  obtain ⟨x', hx, hd⟩ := Option.bind_eq_some_iff.mp hd
  exact hr x' d hd m1.I m1.H v A1.ih (A1.drs r1 hx) Q q
theorem se_cbA {tr : TA} {r : Sg → Rs (List U)} {rr : List V → Hp → VK → Prop} {f : List D → Option D} (hr : CaF K rr f) (h1 : SA K W tr r) : SE K W (tCB rr tr) (sCbA f r) := fun Γ σ m A Q p => by
  refine h1.step A p fun x Γ1 m1 v n1 A1 r1 p1 => ?_
  obtain ⟨d, hd, q⟩ := p1.a A1
  obtain ⟨x', hx, hd⟩ := Option.bind_eq_some_iff.mp hd
  exact hr x' d hd m1.I m1.H v A1.ih (A1.drs r1 hx) Q q
/-! ### displays -/
def sTup (a : Sg → Rs (List U)) : Sg → Rs U := fun Γ => (a Γ).bind fun xs Γ1 => ofO ((pus xs).bind fun ds => if ds.length ≤ sizeLine then some (.tup ds) else none) Γ1
def sLst (a : Sg → Rs (List U)) : Sg → Rs U := fun Γ => (a Γ).bind fun xs Γ1 => ofO ((pus xs).bind fun ds => if ds.length ≤ sizeLine then some (.lst ds) else none) Γ1
def sLstA (a : Sg → Rs (List U)) : Sg → Rs U := fun Γ => (a Γ).bind fun xs Γ1 => ofA ((pus xs).bind fun ds => if ds.length ≤ sizeLine then some (.lst ds) else none) Γ1
/-- a list of lists that may change -/
def sLstN (a : Sg → Rs (List U)) : Sg → Rs U := fun Γ => (a Γ).bind fun xs Γ1 => if xs.length ≤ sizeLine then .ok (.lc Γ1.mm.length) ⟨Γ1.sl, Γ1.mm ++ [.n xs]⟩ else .st
theorem guard_eq {P : Prop} [Decidable P] {α : Type} {a d : α} (h : (if P then some a else none) = some d) : P ∧ a = d := by
  split at h
  · exact ⟨by assumption, by simpa using h⟩
  · cases h
theorem se_tup {tr : TA} {r : Sg → Rs (List U)} (h1 : SA K W tr r) : SE K W (tTup tr) (sTup r) := fun Γ σ m A Q p => by
  refine h1.step A p fun x Γ1 m1 v n1 A1 r1 p1 => ?_
  obtain ⟨d, hd, q⟩ := p1.o A1
  obtain ⟨ds, hx, hd⟩ := Option.bind_eq_some_iff.mp hd
  obtain ⟨hl, rfl⟩ := guard_eq hd
  have rs := RUs.pu r1 hx
  exact ⟨by rw [rs.length]; exact hl, fun p hp => q _ _ _ (Gr.new A1.ih hp) (.tup upd_same (rs.mono (Ex.new (A1.ih.free hp))))⟩
theorem se_lst {tr : TA} {r : Sg → Rs (List U)} (h1 : SA K W tr r) : SE K W (tLst tr) (sLst r) := fun Γ σ m A Q p => by
  refine h1.step A p fun x Γ1 m1 v n1 A1 r1 p1 => ?_
  obtain ⟨d, hd, q⟩ := p1.o A1
  obtain ⟨ds, hx, hd⟩ := Option.bind_eq_some_iff.mp hd
  obtain ⟨hl, rfl⟩ := guard_eq hd
  have rs := RUs.pu r1 hx
  exact ⟨by rw [rs.length]; exact hl, fun p hp => q _ _ _ (Gr.new A1.ih hp) (.lst upd_same (rs.mono (Ex.new (A1.ih.free hp))))⟩
theorem se_lstA {tr : TA} {r : Sg → Rs (List U)} (h1 : SA K W tr r) : SE K W (tLst tr) (sLstA r) := fun Γ σ m A Q p => by
  refine h1.step A p fun x Γ1 m1 v n1 A1 r1 p1 => ?_
  obtain ⟨d, hd, q⟩ := p1.a A1
  obtain ⟨ds, hx, hd⟩ := Option.bind_eq_some_iff.mp hd
  obtain ⟨hl, rfl⟩ := guard_eq hd
  have rs := RUs.pu r1 hx
  exact ⟨by rw [rs.length]; exact hl, fun p hp => q p _ hp (.lst rs)⟩
theorem se_lstN {tr : TA} {r : Sg → Rs (List U)} (h1 : SA K W tr r) : SE K W (tLst tr) (sLstN r) := fun Γ σ m A Q p => by
  refine h1.step A p fun x Γ1 m1 v n1 A1 r1 p1 => ?_
  split at p1
  · rename_i hl
    refine ⟨by rw [RUs.length r1]; exact hl, fun a ha => ?_⟩
    obtain ⟨B, nx⟩ := A1.alloc (x := .n x) (o := .lst v) ha ⟨A1.ih.free ha, v, upd_same, r1⟩ nofun
    have := p1 _ (.ref (updA m1.as Γ1.mm.length a Γ1.mm.length)) nx B (.lc (by rw [List.length_append]; exact Nat.lt_succ_self _))
    rw [updA_same] at this
    exact this
  · exact p1.elim
/-! ### tests -/
def tr1 (mm : List Cell) (u : U) : Option Bool := (dr mm u).bind fun d => match d with
  | .bl b => some b
  | _ => none
def ofB (o : Option Bool) (Γ : Sg) : Rs Bool := match o with
  | some b => .ok b Γ
  | none => .st
@[simp] theorem ofB_some (b : Bool) (Γ : Sg) : ofB (some b) Γ = .ok b Γ := rfl
@[simp] theorem ofB_none (Γ : Sg) : ofB none Γ = .st := rfl
@[simp] theorem tr1_bl (mm : List Cell) (b : Bool) : tr1 mm (.d (.bl b)) = some b := rfl
def tB1 (a : Sg → Rs U) : Sg → Rs Bool := fun Γ => (a Γ).bind fun x Γ1 => ofB (tr1 Γ1.mm x) Γ1
theorem bool_of {K : PySem.W.Frag} {W : WX} {Γ : Sg} {σ : L2.St} {m : Wd} {Q : Bool → Hp → Prop} {n : Nat} {v : V} {u : U} (A : At K σ m Γ) (r : RU K m.I m.as n v u) (p : Post K W σ m Γ.mm rEq (ofB (tr1 Γ.mm u) Γ) Q) : ∃ k, v = .bl k ∧ Q k m.H := by
  cases h : tr1 Γ.mm u with
  | none => rw [h] at p; exact p.elim
  | some b =>
    rw [h] at p
    unfold tr1 at h
    obtain ⟨d, h1, h2⟩ := Option.bind_eq_some_iff.mp h
    cases d with
    | bl k => cases h2; exact ⟨b, (A.dr r h1).bl, p m b .refl A rfl⟩
    | _ => cases h2
theorem st_test (h1 : SE K W ta a) : ST K W (tTest ta) (tB1 a) := fun Γ σ m A Q p => by
  exact h1.step A p fun x Γ1 m1 v n1 A1 r1 p1 => bool_of A1 r1 p1
theorem st_b (h1 : SE K W ta a) : ST K W (tB ta) (tB1 a) := fun Γ σ m A Q p => by
  exact h1.step A p fun x Γ1 m1 v n1 A1 r1 p1 => bool_of A1 r1 p1
def tNot1 (a : Sg → Rs Bool) : Sg → Rs Bool := fun Γ => (a Γ).bind fun x Γ1 => .ok (!x) Γ1
def tAnd1 (a b : Sg → Rs Bool) : Sg → Rs Bool := fun Γ => (a Γ).bind fun x Γ1 => if x then b Γ1 else .ok false Γ1
def tOr1 (a b : Sg → Rs Bool) : Sg → Rs Bool := fun Γ => (a Γ).bind fun x Γ1 => if x then .ok true Γ1 else b Γ1
def tYes1 : Sg → Rs Bool := fun Γ => .ok true Γ
variable {t u : TT} {p q : Sg → Rs Bool}
theorem st_yes : ST K W tYes tYes1 := fun Γ σ m A Q p => p m true .refl A rfl
theorem st_not (h1 : ST K W t p) : ST K W (tNot t) (tNot1 p) := fun Γ σ m A Q p => by
  exact h1.step A p fun x Γ1 m1 v n1 A1 r1 p1 => by
    obtain rfl : v = x := r1
    exact p1 m1 (!v) .refl A1 rfl
theorem st_and (h1 : ST K W t p) (h2 : ST K W u q) : ST K W (tAnd t u) (tAnd1 p q) := fun Γ σ m A Q p => by
  exact h1.step A p fun x Γ1 m1 v n1 A1 r1 p1 => by
    obtain rfl : v = x := r1
    cases v with
    | true => rw [if_pos rfl]; exact h2 Γ1 σ m1 A1 Q p1
    | false => rw [if_neg Bool.false_ne_true]; exact p1 m1 false .refl A1 rfl
theorem st_or (h1 : ST K W t p) (h2 : ST K W u q) : ST K W (tOr t u) (tOr1 p q) := fun Γ σ m A Q p => by
  exact h1.step A p fun x Γ1 m1 v n1 A1 r1 p1 => by
    obtain rfl : v = x := r1
    cases v with
    | true => rw [if_pos rfl]; exact p1 m1 true .refl A1 rfl
    | false => rw [if_neg Bool.false_ne_true]; exact h2 Γ1 σ m1 A1 Q p1
/-- a and b, a or b, not a as values, the first ones truths -/
def sAnd (a b : Sg → Rs U) : Sg → Rs U := fun Γ => (a Γ).bind fun x Γ1 => match tr1 Γ1.mm x with
  | some true => b Γ1
  | some false => .ok (.d (.bl false)) Γ1
  | none => .st
def sOr (a b : Sg → Rs U) : Sg → Rs U := fun Γ => (a Γ).bind fun x Γ1 => match tr1 Γ1.mm x with
  | some true => .ok (.d (.bl true)) Γ1
  | some false => b Γ1
  | none => .st
def sNot (a : Sg → Rs U) : Sg → Rs U := fun Γ => (a Γ).bind fun x Γ1 => match tr1 Γ1.mm x with
  | some k => .ok (.d (.bl (!k))) Γ1
  | none => .st
theorem tr1_v {K : PySem.W.Frag} {Γ : Sg} {σ : L2.St} {m : Wd} {n : Nat} {v : V} {u : U} {k : Bool} (A : At K σ m Γ) (r : RU K m.I m.as n v u) (h : tr1 Γ.mm u = some k) : v = .bl k := by
  unfold tr1 at h
  obtain ⟨d, h1, h2⟩ := Option.bind_eq_some_iff.mp h
  cases d with
  | bl k => cases h2; exact (A.dr r h1).bl
  | _ => cases h2
theorem se_andV (h1 : SE K W ta a) (h2 : SE K W tb b) : SE K W (tAndV ta tb) (sAnd a b) := fun Γ σ m A Q p => by
  exact h1.step A p fun x Γ1 m1 v n1 A1 r1 p1 => by
    cases h : tr1 Γ1.mm x with
    | none => rw [h] at p1; exact p1.elim
    | some k =>
      rw [h] at p1
      refine ⟨k, tr1_v A1 r1 h, ?_⟩
      cases k with
      | true => exact h2 Γ1 σ m1 A1 Q p1
      | false => exact p1 m1 _ .refl A1 (.d (.bl false))
theorem se_orV (h1 : SE K W ta a) (h2 : SE K W tb b) : SE K W (tOrV ta tb) (sOr a b) := fun Γ σ m A Q p => by
  exact h1.step A p fun x Γ1 m1 v n1 A1 r1 p1 => by
    cases h : tr1 Γ1.mm x with
    | none => rw [h] at p1; exact p1.elim
    | some k =>
      rw [h] at p1
      refine ⟨k, tr1_v A1 r1 h, ?_⟩
      cases k with
      | true => exact p1 m1 _ .refl A1 (.d (.bl true))
      | false => exact h2 Γ1 σ m1 A1 Q p1
theorem se_notV (h1 : SE K W ta a) : SE K W (tNotV ta) (sNot a) := fun Γ σ m A Q p => by
  exact h1.step A p fun x Γ1 m1 v n1 A1 r1 p1 => by
    cases h : tr1 Γ1.mm x with
    | none => rw [h] at p1; exact p1.elim
    | some k =>
      rw [h] at p1
      exact ⟨k, tr1_v A1 r1 h, p1 m1 _ .refl A1 (.d (.bl (!k)))⟩
def sIfE (t : Sg → Rs Bool) (a b : Sg → Rs U) : Sg → Rs U := fun Γ => (t Γ).bind fun x Γ1 => if x then a Γ1 else b Γ1
theorem se_if (h0 : ST K W t p) (h1 : SE K W ta a) (h2 : SE K W tb b) : SE K W (tIf t ta tb) (sIfE p a b) := fun Γ σ m A Q p => by
  exact h0.step A p fun x Γ1 m1 v n1 A1 r1 p1 => by
    obtain rfl : v = x := r1
    cases v with
    | true => exact h1 Γ1 σ m1 A1 Q p1
    | false => exact h2 Γ1 σ m1 A1 Q p1
/-- a < b < c -/
def sChain (f g : D → D → Option D) (a b d : Sg → Rs U) : Sg → Rs U := fun Γ => (a Γ).bind fun x Γ1 => (b Γ1).bind fun y Γ2 => match (dr Γ2.mm x).bind fun x => (dr Γ2.mm y).bind fun y => f x y with
  | some (.bl true) => (d Γ2).bind fun z Γ3 => ofO ((dr Γ3.mm y).bind fun y => (dr Γ3.mm z).bind fun z => g y z) Γ3
  | some (.bl false) => .ok (.d (.bl false)) Γ2
  | _ => .st
theorem se_chain {r r' : R2} {f g : D → D → Option D} (hr : BinS K r f) (hr' : BinS K r' g) (h1 : SE K W ta a) (h2 : SE K W tb b) (h3 : SE K W tc d) : SE K W (tChain r r' ta tb tc) (sChain f g a b d) := fun Γ σ m A Q p => by
  refine h1.step A p fun x Γ1 m1 v n1 A1 r1 p1 => h2.step A1 p1 fun y Γ2 m2 w n2 A2 r2 p2 => ?_
  cases ho : (dr Γ2.mm x).bind fun x => (dr Γ2.mm y).bind fun y => f x y with
  | none => rw [ho] at p2; exact p2.elim
  | some e =>
    rw [ho] at p2
    obtain ⟨x', hx, hd⟩ := Option.bind_eq_some_iff.mp ho
    obtain ⟨y', hy, hd⟩ := Option.bind_eq_some_iff.mp hd
    refine hr x' y' e hd m2.I m2.H v w A2.ih (A2.dr (RU.mono n2 r1) hx) (A2.dr r2 hy) _ fun I3 H3 z g3 rz => ?_
    cases e with
    | bl k =>
      cases rz
      refine ⟨k, rfl, ?_⟩
      have A3 := A2.g g3
      cases k with
      | true =>
        rw [if_pos rfl]
        refine h3.step A3 (Post.tr p2 (.g g3)) fun z Γ4 m4 w4 n4 A4 r4 p4 => ?_
        obtain ⟨d, hd, q⟩ := p4.o A4
        obtain ⟨x', hx, hd⟩ := Option.bind_eq_some_iff.mp hd
        obtain ⟨y', hy, hd⟩ := Option.bind_eq_some_iff.mp hd
        exact hr' x' y' d hd m4.I m4.H w w4 A4.ih (A4.dr (RU.mono ((Nx.g g3).trans n4) r2) hx) (A4.dr r4 hy) Q q
      | false =>
        rw [if_neg Bool.false_ne_true]
        exact p2 ⟨I3, H3, m2.as⟩ _ (.g g3) A3 (.d (.bl false))
    | _ => exact p2.elim
/-! ### parts of a slice -/
def oNone : Sg → Rs (Option Int) := fun Γ => .ok none Γ
def oSome (a : Sg → Rs U) : Sg → Rs (Option Int) := fun Γ => (a Γ).bind fun x Γ1 => match dr Γ1.mm x with
  | some (.int i) => .ok (some i) Γ1
  | _ => .st
theorem so_none : SO K W tNoPart oNone := fun Γ σ m A Q p => p m none .refl A rfl
theorem so_some (h1 : SE K W ta a) : SO K W (tPart ta) (oSome a) := fun Γ σ m A Q p => by
  exact h1.step A p fun x Γ1 m1 v n1 A1 r1 p1 => by
    cases h : dr Γ1.mm x with
    | none => rw [h] at p1; exact p1.elim
    | some d =>
      rw [h] at p1
      cases d with
      | int i => exact ⟨i, (A1.dr r1 h).int, p1 m1 _ .refl A1 rfl⟩
      | _ => exact p1.elim
def SlS (K : PySem.W.Frag) (r : V → Option Int → Option Int → Hp → VK → Prop) (f : D → Option Int → Option Int → Option D) : Prop := ∀ x lo hi d, f x lo hi = some d → ∀ (I H : Hp) (u : V), Ex I H → RpL K I H u x → ∀ Q : VK, (∀ I' H' w, Gr [] I H I' H' → Rp K I' w d → Q w H') → r u lo hi H Q
def SlF (K : PySem.W.Frag) (r : V → Option Int → Option Int → Hp → VK → Prop) (f : D → Option Int → Option Int → Option D) : Prop := ∀ x lo hi d, f x lo hi = some d → ∀ (I H : Hp) (u : V), Ex I H → RpL K I H u x → ∀ Q : VK, (∀ a o, H a = none → MRp K I o d → Q (.ref a) (upd H a o)) → r u lo hi H Q
def sSl (f : D → Option Int → Option Int → Option D) (a : Sg → Rs U) (l h : Sg → Rs (Option Int)) : Sg → Rs U := fun Γ => (a Γ).bind fun x Γ1 => (l Γ1).bind fun lo Γ2 => (h Γ2).bind fun hi Γ3 => ofO ((dr Γ3.mm x).bind fun x => f x lo hi) Γ3
def sSlA (f : D → Option Int → Option Int → Option D) (a : Sg → Rs U) (l h : Sg → Rs (Option Int)) : Sg → Rs U := fun Γ => (a Γ).bind fun x Γ1 => (l Γ1).bind fun lo Γ2 => (h Γ2).bind fun hi Γ3 => ofA ((dr Γ3.mm x).bind fun x => f x lo hi) Γ3
theorem se_sl {r : V → Option Int → Option Int → Hp → VK → Prop} {f : D → Option Int → Option Int → Option D} {tl th : TO} {l h : Sg → Rs (Option Int)} (hr : SlS K r f) (h1 : SE K W ta a) (h2 : SO K W tl l) (h3 : SO K W th h) : SE K W (tSl r ta tl th) (sSl f a l h) := fun Γ σ m A Q p => by
  refine h1.step A p fun x Γ1 m1 v n1 A1 r1 p1 => h2.step A1 p1 fun lo Γ2 m2 w n2 A2 r2 p2 => h3.step A2 p2 fun hi Γ3 m3 w3 n3 A3 r3 p3 => ?_
  obtain rfl : w = lo := r2
  obtain rfl : w3 = hi := r3
  obtain ⟨d, hd, q⟩ := p3.o A3
  obtain ⟨x', hx, hd⟩ := Option.bind_eq_some_iff.mp hd
  exact hr x' w w3 d hd m3.I m3.H v A3.ih (A3.dr (RU.mono (n2.trans n3) r1) hx) Q q
theorem se_slA {r : V → Option Int → Option Int → Hp → VK → Prop} {f : D → Option Int → Option Int → Option D} {tl th : TO} {l h : Sg → Rs (Option Int)} (hr : SlF K r f) (h1 : SE K W ta a) (h2 : SO K W tl l) (h3 : SO K W th h) : SE K W (tSl r ta tl th) (sSlA f a l h) := fun Γ σ m A Q p => by
  refine h1.step A p fun x Γ1 m1 v n1 A1 r1 p1 => h2.step A1 p1 fun lo Γ2 m2 w n2 A2 r2 p2 => h3.step A2 p2 fun hi Γ3 m3 w3 n3 A3 r3 p3 => ?_
  obtain rfl : w = lo := r2
  obtain rfl : w3 = hi := r3
  obtain ⟨d, hd, q⟩ := p3.a A3
  obtain ⟨x', hx, hd⟩ := Option.bind_eq_some_iff.mp hd
  exact hr x' w w3 d hd m3.I m3.H v A3.ih (A3.dr (RU.mono (n2.trans n3) r1) hx) Q q
end
end S

namespace S
open PySem PySem.Spec L2
open G (Ex Gr ex_l ex_t ExnAt exx exx_ok)
/-! ### statements -/
inductive Fl where
  | nx | bk | ct | rt (d : D) | rf (j : Nat) (d : D)
  deriving Inhabited
/-- what is wished behind a statement run from m -/
def PostS (K : PySem.W.Frag) (W : WX) (m : Wd) (mm : List Cell) (r : Rs Fl) (De : Ends) : Prop := match r with
  | .st => False
  | .ok .nx Γ' => ∀ σ' m', Nx m mm m' Γ'.mm → At K σ' m' Γ' → De.nx σ' m'.H
  | .ok .bk Γ' => ∀ σ' m', Nx m mm m' Γ'.mm → At K σ' m' Γ' → De.bk σ' m'.H
  | .ok .ct Γ' => ∀ σ' m', Nx m mm m' Γ'.mm → At K σ' m' Γ' → De.ct σ' m'.H
  | .ok (.rt d) Γ' => ∀ σ' m' v, Nx m mm m' Γ'.mm → At K σ' m' Γ' → Rp K m'.I v d → De.rt v m'.H
  | .ok (.rf j d) Γ' => ∀ σ' m' o, Nx m mm m' Γ'.mm → At K σ' m' Γ' → Γ'.mm[j]? = some (.p d) → m'.I (m'.as j) = none → m'.H (m'.as j) = some o → MRp K m'.I o d → De.rt (.ref (m'.as j)) m'.H
  | .ex x Γ' => ∀ σ' m' C dx, Nx m mm m' Γ'.mm → At K σ' m' Γ' → clsA K x.C = some C → XdAt K m'.I m'.H m.H dx x.ns x.ds → W (.ref C) (some dx) σ' m'.H
theorem PostS.tr {K : PySem.W.Frag} {W : WX} {m m1 : Wd} {mm mm1 : List Cell} {r : Rs Fl} {De : Ends} (p : PostS K W m mm r De) (x : Nx m mm m1 mm1) : PostS K W m1 mm1 r De := by
  cases r with
  | st => exact p
  | ok f g =>
    cases f with
    | nx => exact fun σ' m' nx A => p σ' m' (x.trans nx) A
    | bk => exact fun σ' m' nx A => p σ' m' (x.trans nx) A
    | ct => exact fun σ' m' nx A => p σ' m' (x.trans nx) A
    | rt d => exact fun σ' m' v nx A => p σ' m' v (x.trans nx) A
    | rf j d => exact fun σ' m' o nx A => p σ' m' o (x.trans nx) A
  | ex e g => exact fun σ' m' C dx nx A hc hd => p σ' m' C dx (x.trans nx) A hc (hd.back x.th)
def SS (K : PySem.W.Frag) (W : WX) (ts : TS) (s : Sg → Rs Fl) : Prop := ∀ (Γ : Sg) (σ : L2.St) (m : Wd) (De : Ends), At K σ m Γ → PostS K W m Γ.mm (s Γ) De → ts De σ m.H
section
variable {α β : Type} {K : PySem.W.Frag} {W : WX} {rel : Rel α β} {t : L2.St → Hp → (β → Hp → Prop) → Prop} {s : Sg → Rs α} {Γ : Sg} {σ : L2.St} {m : Wd}
theorem J.stepS (h : J K W rel t s) (A : At K σ m Γ) {f : α → Sg → Rs Fl} {De : Ends} {R : β → Hp → Prop} (p : PostS K W m Γ.mm ((s Γ).bind f) De)
    (k : ∀ a Γ1 m1 b, Nx m Γ.mm m1 Γ1.mm → At K σ m1 Γ1 → rel m1 Γ1.mm.length b a → PostS K W m1 Γ1.mm (f a Γ1) De → R b m1.H) : t σ m.H R := by
  refine h Γ σ m A R ?_
  cases hs : s Γ with
  | st => rw [hs] at p; exact p
  | ex x Γ' => rw [hs] at p; exact fun m' C dx nx A' hc hd => p σ m' C dx nx A' hc hd
  | ok a Γ1 => rw [hs] at p; exact fun m' b nx A1 r => k a Γ1 m' b nx A1 r (PostS.tr p nx)
end
/-! ### targets: names, tuples of names -/
structure Tg (K : PySem.W.Frag) (g : TG) (ws : List Nat) (s : U → Sg → Option Sg) : Prop where
  run : ∀ (Γ Γ' : Sg) (σ : L2.St) (m : Wd) (u : U) (v : V), At K σ m Γ → RU K m.I m.as Γ.mm.length v u → s u Γ = some Γ' → ∀ Q : L2.St → Hp → Prop,
    (∀ σ', At K σ' m Γ' → Γ'.mm = Γ.mm → (∀ j, j ∉ ws → σ'[j]? = σ[j]?) → σ'.length = σ.length → Q σ' m.H) → g v σ m.H Q
structure Tgs (K : PySem.W.Frag) (g : TGs) (ws : List Nat) (s : List D → Sg → Option Sg) : Prop where
  run : ∀ (Γ Γ' : Sg) (σ : L2.St) (m : Wd) (us : List D) (vs : List V), At K σ m Γ → Rps K m.I vs us → s us Γ = some Γ' → ∀ Q : L2.St → Hp → Prop,
    (∀ σ', At K σ' m Γ' → Γ'.mm = Γ.mm → (∀ j, j ∉ ws → σ'[j]? = σ[j]?) → σ'.length = σ.length → Q σ' m.H) → g vs σ m.H Q
def gN (i : Nat) : U → Sg → Option Sg := fun u Γ => some ⟨Γ.sl.set i (some u), Γ.mm⟩
def gT (n : Nat) (gs : List D → Sg → Option Sg) : U → Sg → Option Sg := fun u Γ => match u with
  | .d (.tup ds) => if ds.length = n then gs ds Γ else none
  | _ => none
def gsN : List D → Sg → Option Sg := fun ds Γ => match ds with
  | [] => some Γ
  | _ => none
def gsC (g : U → Sg → Option Sg) (gs : List D → Sg → Option Sg) : List D → Sg → Option Sg := fun ds Γ => match ds with
  | d :: ds => (g (.d d) Γ).bind fun Γ1 => gs ds Γ1
  | [] => none
section
variable {K : PySem.W.Frag}
theorem tg_name {i : Nat} : Tg K (gName i) [i] (gN i) := ⟨fun Γ Γ' σ m u v A r h Q q => by
  cases h
  exact q _ (A.set r) rfl (fun j hj => List.getElem?_set_ne (fun z => hj (by rw [z]; exact List.mem_singleton.mpr rfl))) (by simp)⟩
theorem tgs_nil : Tgs K gNil [] gsN := ⟨fun Γ Γ' σ m us vs A r h Q q => by
  cases us with
  | nil => cases r; cases h; exact ⟨rfl, q σ A rfl (fun _ _ => rfl) rfl⟩
  | cons _ _ => cases h⟩
theorem tgs_cons {g : TG} {gs : TGs} {w1 w2 : List Nat} {s : U → Sg → Option Sg} {ss : List D → Sg → Option Sg} (h1 : Tg K g w1 s) (h2 : Tgs K gs w2 ss) : Tgs K (gCons g gs) (w1 ++ w2) (gsC s ss) := ⟨fun Γ Γ' σ m us vs A r h Q q => by
  cases r with
  | nil => cases h
  | cons a b =>
    obtain ⟨Γ1, e1, e2⟩ := Option.bind_eq_some_iff.mp h
    refine ⟨_, _, rfl, h1.run Γ Γ1 σ m _ _ A (.d a) e1 _ fun σ1 A1 m1 k1 n1 => h2.run Γ1 Γ' σ1 m _ _ A1 b e2 _ fun σ2 A2 m2 k2 n2 => q σ2 A2 (m2.trans m1) (fun j hj => ?_) (n2.trans n1)⟩
    rw [List.mem_append] at hj
    exact (k2 j fun z => hj (.inr z)).trans (k1 j fun z => hj (.inl z))⟩
theorem tg_tup {gs : TGs} {n : Nat} {ws : List Nat} {ss : List D → Sg → Option Sg} (h : Tgs K gs ws ss) : Tg K (gTup K n gs) ws (gT n ss) := ⟨fun Γ Γ' σ m u v A r e Q q => by
  cases r with
  | lc _ => cases e
  | d r =>
    cases r with
    | tup hs hr =>
      rename_i ds
      by_cases hl : ds.length = n
      · simp only [gT, if_pos hl] at e
        exact ⟨_, _, rfl, .inl (.inl (A.ih _ _ hs)), by rw [hr.length]; exact hl, h.run Γ Γ' σ m _ _ A hr e Q q⟩
      · simp only [gT, if_neg hl] at e
        cases e
    | _ => cases e⟩
end
/-! ### what is walked -/
def IsW (K : PySem.W.Frag) (I : Hp) (J : It) (xs : List D) : Prop := ∃ (Gc : Hp → Prop) (Y : Nat → Hp → V → Hp → Prop), Walk J xs.length Gc Y ∧ (∀ I1 H1, Ex I I1 → Ex I1 H1 → Gc H1) ∧
  ∀ i H x H' I1, i < xs.length → Y i H x H' → Ex I I1 → Ex I1 H → ∃ I2 d, Gr [] I1 H I2 H' ∧ xs[i]? = some d ∧ Rp K I2 x d
def rW (K : PySem.W.Frag) : Rel (List D) It := fun m _ j xs => IsW K m.I j xs
abbrev SI (K : PySem.W.Frag) (W : WX) (wi : TI) (s : Sg → Rs (List D)) : Prop := J K W (rW K) wi s
/-- what is forgotten: slots -/
def fgt : List Nat → List (Option U) → List (Option U)
  | [], sl => sl
  | i :: is, sl => (fgt is sl).set i none
theorem At.fgt {K : PySem.W.Frag} {σ : L2.St} {m : Wd} {Γ : Sg} (A : At K σ m Γ) : ∀ is, At K σ m ⟨fgt is Γ.sl, Γ.mm⟩
  | [] => A
  | i :: is => (A.fgt is).forget
def Sg.fg (Γ : Sg) (is : List Nat) : Sg := ⟨fgt is Γ.sl, Γ.mm⟩
/-! ### loops -/
def forL (fg : List Nat) (tg : U → Sg → Option Sg) (body : Sg → Rs Fl) : List D → Sg → Rs Fl
  | [], Γ => .ok .nx (Γ.fg fg)
  | x :: xs, Γ => match tg (.d x) (Γ.fg fg) with
    | none => .st
    | some Γ1 => match body Γ1 with
      | .ok .nx Γ2 => forL fg tg body xs Γ2
      | .ok .ct Γ2 => forL fg tg body xs Γ2
      | .ok .bk Γ2 => .ok .nx (Γ2.fg fg)
      | r => r
def sFor (fg : List Nat) (src : Sg → Rs (List D)) (tg : U → Sg → Option Sg) (body : Sg → Rs Fl) : Sg → Rs Fl := fun Γ => (src Γ).bind fun xs Γ1 => forL fg tg body xs Γ1
def whL (fg : List Nat) (t : Sg → Rs Bool) (body : Sg → Rs Fl) : Nat → Sg → Rs Fl
  | 0, _ => .st
  | n + 1, Γ => (t (Γ.fg fg)).bind fun b Γ1 => if b then (match body Γ1 with
      | .ok .nx Γ2 => whL fg t body n Γ2
      | .ok .ct Γ2 => whL fg t body n Γ2
      | .ok .bk Γ2 => .ok .nx (Γ2.fg fg)
      | r => r) else .ok .nx Γ1
def sWhile (fg : List Nat) (fuel : Nat) (t : Sg → Rs Bool) (body : Sg → Rs Fl) : Sg → Rs Fl := fun Γ => whL fg t body fuel Γ
section
variable {K : PySem.W.Frag} {W : WX}
theorem ss_for {fg : List Nat} {wi : TI} {g : TG} {tb : TS} {ws : List Nat} {src : Sg → Rs (List D)} {tg : U → Sg → Option Sg} {body : Sg → Rs Fl} (h1 : SI K W wi src) (h2 : Tg K g ws tg) (h3 : SS K W tb body) : SS K W (tFor wi g tb) (sFor fg src tg body) := fun Γ σ m De A p => by
  refine h1.stepS A p fun xs Γ1 m1 J n1 A1 hw p1 => ?_
  obtain ⟨Gc, Y, w, hg, hy⟩ := hw
  refine for_it (g := g) (tb := tb) (D := De) w (fun i σ H => ∃ m2 Γi, m2.H = H ∧ Nx m1 Γ1.mm m2 Γi.mm ∧ At K σ m2 Γi ∧ PostS K W m2 Γi.mm (forL fg tg body (xs.drop i) Γi) De)
    ⟨m1, Γ1, rfl, .refl, A1, p1⟩ (fun i σ H _ ⟨m2, Γi, e, nx, A, _⟩ => hg m2.I H nx.ex (e ▸ A.ih)) ?_ ?_
  · rintro i x σ H H' hi ⟨m2, Γi, rfl, nx2, A2, p2⟩ y
    obtain ⟨I3, d, g3, hd, rd⟩ := hy i m2.H x H' m2.I hi y nx2.ex A2.ih
    have e : xs.drop i = d :: xs.drop (i + 1) := by
      rw [List.drop_eq_getElem_cons hi]
      rw [List.getElem?_eq_getElem hi] at hd
      cases hd
      rfl
    rw [e, forL] at p2
    have A3 := (A2.g g3).fgt fg
    have nx3 : Nx m1 Γ1.mm ⟨I3, H', m2.as⟩ Γi.mm := nx2.trans (.g g3)
    have p3 := PostS.tr p2 (Nx.g g3)
    cases hg1 : tg (.d d) (Γi.fg fg) with
    | none => rw [hg1] at p3; exact p3.elim
    | some Γ4 =>
      rw [hg1] at p3
      dsimp only at p3
      refine h2.run (Γi.fg fg) Γ4 σ ⟨I3, H', m2.as⟩ _ x A3 (.d rd) hg1 _ fun σ' A4 hm _ _ => ?_
      have hm : Γ4.mm = Γi.mm := hm
      refine h3 Γ4 σ' ⟨I3, H', m2.as⟩ _ A4 ?_
      rw [← hm] at p3 nx3
      cases hb : body Γ4 with
      | st => rw [hb] at p3; exact p3
      | ex e Γ5 => rw [hb] at p3; exact p3
      | ok f Γ5 =>
        rw [hb] at p3
        cases f with
        | nx => exact fun σ' m' nx A' => ⟨m', Γ5, rfl, nx3.trans nx, A', PostS.tr p3 nx⟩
        | ct => exact fun σ' m' nx A' => ⟨m', Γ5, rfl, nx3.trans nx, A', PostS.tr p3 nx⟩
        | bk => exact fun σ' m' nx A' => p3 σ' m' nx (A'.fgt fg)
        | rt d => exact p3
        | rf j d => exact p3
  · rintro σ H ⟨m2, Γi, rfl, nx2, A2, p2⟩
    rw [List.drop_length] at p2
    exact p2 σ m2 .refl (A2.fgt fg)
theorem ss_while {fg : List Nat} {fuel : Nat} {tc : TT} {tb : TS} {t : Sg → Rs Bool} {body : Sg → Rs Fl} (h1 : ST K W tc t) (h3 : SS K W tb body) : SS K W (tWhile tc tb) (sWhile fg fuel t body) := fun Γ σ m De A p => by
  refine ⟨fun n σ H => ∃ m2 Γi, m2.H = H ∧ At K σ m2 Γi ∧ PostS K W m2 Γi.mm (whL fg t body n Γi) De, ⟨fuel, m, Γ, rfl, A, p⟩, ?_⟩
  rintro n σ H ⟨m2, Γi, rfl, A2, p2⟩
  cases n with
  | zero => exact p2.elim
  | succ n =>
    rw [whL] at p2
    refine h1.stepS (Γ := Γi.fg fg) (A2.fgt fg) p2 fun b Γ3 m3 v n3 A3 r3 p3 => ?_
    obtain rfl : v = b := r3
    cases v with
    | false => exact p3 σ m3 .refl A3
    | true =>
      rw [if_pos rfl]
      rw [if_pos rfl] at p3
      refine ⟨fun σ' H' => ∃ m2 Γi, m2.H = H' ∧ At K σ' m2 Γi ∧ PostS K W m2 Γi.mm (whL fg t body n Γi) De, fun σ' H' h => ⟨n, Nat.lt_succ_self n, h⟩, ?_⟩
      refine h3 Γ3 σ m3 _ A3 ?_
      cases hb : body Γ3 with
      | st => rw [hb] at p3; exact p3
      | ex e Γ5 => rw [hb] at p3; exact p3
      | ok f Γ5 =>
        rw [hb] at p3
        cases f with
        | nx => exact fun σ' m' nx A' => ⟨m', Γ5, rfl, A', PostS.tr p3 nx⟩
        | ct => exact fun σ' m' nx A' => ⟨m', Γ5, rfl, A', PostS.tr p3 nx⟩
        | bk => exact fun σ' m' nx A' => p3 σ' m' nx (A'.fgt fg)
        | rt d => exact p3
        | rf j d => exact p3
/-! ### simple statements -/
def sNx : Sg → Rs Fl := fun Γ => .ok .nx Γ
def sBk : Sg → Rs Fl := fun Γ => .ok .bk Γ
def sCt : Sg → Rs Fl := fun Γ => .ok .ct Γ
def sSeq (a b : Sg → Rs Fl) : Sg → Rs Fl := fun Γ => match a Γ with
  | .ok .nx Γ1 => b Γ1
  | r => r
def sIf (t : Sg → Rs Bool) (a b : Sg → Rs Fl) : Sg → Rs Fl := fun Γ => (t Γ).bind fun x Γ1 => if x then a Γ1 else b Γ1
def sAsg (e : Sg → Rs U) (tg : U → Sg → Option Sg) : Sg → Rs Fl := fun Γ => (e Γ).bind fun u Γ1 => match tg u Γ1 with
  | some Γ2 => .ok .nx Γ2
  | none => .st
def sDrop (e : Sg → Rs U) : Sg → Rs Fl := fun Γ => (e Γ).bind fun _ Γ1 => .ok .nx Γ1
def sRet (e : Sg → Rs U) : Sg → Rs Fl := fun Γ => (e Γ).bind fun u Γ1 => match pu u with
  | some d => .ok (.rt d) Γ1
  | none => .st
def sRetN : Sg → Rs Fl := fun Γ => .ok (.rt .non) Γ
variable {te : TE} {e : Sg → Rs U} {tt : TT} {t : Sg → Rs Bool} {ta tb : TS} {a b : Sg → Rs Fl}
theorem ss_nx : SS K W tNext sNx := fun Γ σ m De A p => p σ m .refl A
theorem ss_bk : SS K W tBreak sBk := fun Γ σ m De A p => p σ m .refl A
theorem ss_ct : SS K W tCont sCt := fun Γ σ m De A p => p σ m .refl A
theorem ss_seq (h1 : SS K W ta a) (h2 : SS K W tb b) : SS K W (tSeq ta tb) (sSeq a b) := fun Γ σ m De A p => by
  refine h1 Γ σ m _ A ?_
  unfold sSeq at p
  cases ha : a Γ with
  | st => rw [ha] at p; exact p
  | ex x Γ1 => rw [ha] at p; exact p
  | ok f Γ1 =>
    rw [ha] at p
    cases f with
    | nx => exact fun σ' m' nx A' => h2 Γ1 σ' m' De A' (PostS.tr p nx)
    | bk => exact p
    | ct => exact p
    | rt d => exact p
    | rf j d => exact p
theorem ss_if (h0 : ST K W tt t) (h1 : SS K W ta a) (h2 : SS K W tb b) : SS K W (tIfS tt ta tb) (sIf t a b) := fun Γ σ m De A p => by
  refine h0.stepS A p fun x Γ1 m1 v n1 A1 r1 p1 => ?_
  obtain rfl : v = x := r1
  cases v with
  | true => exact h1 Γ1 σ m1 De A1 p1
  | false => exact h2 Γ1 σ m1 De A1 p1
theorem ss_asg {g : TG} {ws : List Nat} {tg : U → Sg → Option Sg} (h1 : SE K W te e) (h2 : Tg K g ws tg) : SS K W (tAsg te g) (sAsg e tg) := fun Γ σ m De A p => by
  refine h1.stepS A p fun u Γ1 m1 v n1 A1 r1 p1 => ?_
  cases hg : tg u Γ1 with
  | none => rw [hg] at p1; exact p1.elim
  | some Γ2 =>
    rw [hg] at p1
    exact h2.run Γ1 Γ2 σ m1 u v A1 r1 hg _ fun σ' A2 hm _ _ => p1 σ' m1 (by rw [hm]; exact .refl) A2
theorem ss_drop (h1 : SE K W te e) : SS K W (tDrop te) (sDrop e) := fun Γ σ m De A p => by
  exact h1.stepS A p fun u Γ1 m1 v n1 A1 r1 p1 => p1 σ m1 .refl A1
theorem ss_ret (h1 : SE K W te e) : SS K W (tRet te) (sRet e) := fun Γ σ m De A p => by
  refine h1.stepS A p fun u Γ1 m1 v n1 A1 r1 p1 => ?_
  cases hu : pu u with
  | none => rw [hu] at p1; exact p1.elim
  | some d => rw [hu] at p1; exact p1 σ m1 v .refl A1 (RU.pu r1 hu)
theorem ss_retN : SS K W tRetN sRetN := fun Γ σ m De A p => p σ m .non .refl A .non
def sFgt (is : List Nat) (a : Sg → Rs Fl) : Sg → Rs Fl := fun Γ => a ⟨fgt is Γ.sl, Γ.mm⟩
theorem ss_fgt {is : List Nat} (h : SS K W ta a) : SS K W ta (sFgt is a) := fun Γ σ m De A p => h _ σ m De (A.fgt is) p
/-! ### freezing: a cell changes no more, it becomes data, wherever it is named -/
def fzU (j : Nat) (d : D) : U → U
  | .lc k => if k = j then .d d else .lc k
  | .d x => .d x
def fzC (j : Nat) (d : D) : Cell → Cell
  | .n us => .n (us.map (fzU j d))
  | .p x => .p x
  | .gone => .gone
def fz (j : Nat) (d : D) (Γ : Sg) : Sg := ⟨Γ.sl.map fun o => o.map (fzU j d), (Γ.mm.map (fzC j d)).set j .gone⟩
theorem RU.fz {n : Nat} {I I' : Hp} {as : Nat → Addr} {j : Nat} {d : D} (e : Ex I I') (r : Rp K I' (.ref (as j)) d) {v : V} {u : U} (h : RU K I as n v u) : RU K I' as n v (fzU j d u) := by
  cases h with
  | d h => exact .d (h.mono e)
  | @lc k hk =>
    unfold fzU
    dsimp only
    by_cases z : k = j
    · subst z; rw [if_pos rfl]; exact .d r
    · rw [if_neg z]; exact .lc hk
theorem RUs.fz {n : Nat} {I I' : Hp} {as : Nat → Addr} {j : Nat} {d : D} (e : Ex I I') (r : Rp K I' (.ref (as j)) d) : ∀ {vs : List V} {us : List U}, RUs K I as n vs us → RUs K I' as n vs (us.map (fzU j d))
  | _, _, .nil => .nil
  | _, _, .cons h t => .cons (h.fz e r) (RUs.fz e r t)
theorem fz_at {j k : Nat} {d : D} {mm : List Cell} {x : Cell} (h : ((mm.map (fzC j d)).set j .gone)[k]? = some x) (hx : x ≠ .gone) : k ≠ j ∧ ∃ y, mm[k]? = some y ∧ x = fzC j d y := by
  by_cases z : k = j
  · subst z
    have hl := (List.getElem?_eq_some_iff.mp h).1
    rw [List.length_set] at hl
    rw [List.getElem?_set_self hl] at h
    cases h
    exact absurd rfl hx
  · rw [List.getElem?_set_ne (Ne.symm z), List.getElem?_map] at h
    cases q : mm[k]? with
    | none => rw [q] at h; cases h
    | some y => rw [q] at h; cases h; exact ⟨z, y, rfl, rfl⟩
theorem fzC_gone {j : Nat} {d : D} {x : Cell} (h : fzC j d x ≠ .gone) : x ≠ .gone := fun z => h (by rw [z]; rfl)
theorem gone_fzC {j : Nat} {d : D} {x : Cell} (h : x ≠ .gone) : fzC j d x ≠ .gone := by
  cases x with
  | p _ => exact nofun
  | n _ => exact nofun
  | gone => exact absurd rfl h
theorem live_fz {j k : Nat} {d : D} {mm : List Cell} (h : live ((mm.map (fzC j d)).set j .gone) k) : k ≠ j ∧ live mm k := by
  obtain ⟨x, hx, hq⟩ := h
  obtain ⟨h1, y, h2, rfl⟩ := fz_at hx hq
  exact ⟨h1, y, h2, fzC_gone hq⟩
theorem At.fz {K : PySem.W.Frag} {σ : L2.St} {m : Wd} {Γ : Sg} (A : At K σ m Γ) {j : Nat} {d : D} (q : Γ.mm[j]? = some (.p d)) :
    ∃ I', At K σ ⟨I', m.H, m.as⟩ (fz j d Γ) ∧ Rp K I' (.ref (m.as j)) d ∧ Nx m Γ.mm ⟨I', m.H, m.as⟩ (fz j d Γ).mm := by
  obtain ⟨n0, o, ho, r⟩ := A.mm j _ q
  have lv : live Γ.mm j := ⟨_, q, nofun⟩
  have ei : Ex m.I (upd m.I (m.as j) o) := Ex.new n0
  have rd : Rp K (upd m.I (m.as j) o) (.ref (m.as j)) d := (r.mono ei).rp upd_same
  have hlen : (S.fz j d Γ).mm.length = Γ.mm.length := by simp [S.fz]
  refine ⟨upd m.I (m.as j) o, ⟨fun a u h => ?_, fun i u h => ?_, fun k x h => ?_, fun k l hk hl ne => ?_, by simp [S.fz, A.len]⟩, rd, ⟨ei, fun a u h _ => h, fun a h n => ?_, fun _ h => h, fun _ _ => rfl, by rw [hlen]; exact Nat.le_refl _, fun k h => .inl (live_fz h).2⟩⟩
  · show m.H a = some u
    by_cases z : a = m.as j
    · subst z
      have h : upd m.I (m.as j) o (m.as j) = some u := h
      rw [upd_same] at h
      rw [← h]; exact ho
    · have h : upd m.I (m.as j) o a = some u := h
      rw [upd_ne z] at h; exact A.ih a u h
  · rw [hlen]
    unfold S.fz at h
    dsimp only at h
    rw [List.getElem?_map] at h
    cases z : Γ.sl[i]? with
    | none => rw [z] at h; cases h
    | some w =>
      rw [z] at h
      cases w with
      | none => cases h
      | some w =>
        cases h
        obtain ⟨v, h1, h2⟩ := A.sl i w z
        exact ⟨v, h1, h2.fz ei rd⟩
  · rw [hlen]
    by_cases hx : x = .gone
    · subst hx; trivial
    · obtain ⟨h1, y, h2, rfl⟩ := fz_at h hx
      have hne : m.as k ≠ m.as j := A.ne k j ⟨y, h2, fzC_gone hx⟩ lv h1
      have ok := A.mm k y h2
      cases y with
      | p e =>
        obtain ⟨a1, o1, a2, a3⟩ := ok
        refine ⟨?_, o1, a2, a3.mono ei⟩
        show upd m.I (m.as j) o (m.as k) = none
        rw [upd_ne hne]; exact a1
      | n us =>
        obtain ⟨a1, vs, a2, a3⟩ := ok
        refine ⟨?_, vs, a2, a3.fz ei rd⟩
        show upd m.I (m.as j) o (m.as k) = none
        rw [upd_ne hne]; exact a1
      | gone => exact absurd rfl hx
  · exact A.ne k l (live_fz hk).2 (live_fz hl).2 ne
  · show upd m.I (m.as j) o a = m.I a
    rw [upd_ne (Ne.symm (n j lv))]
/-- e, frozen -/
def sFz (e : Sg → Rs U) : Sg → Rs U := fun Γ => (e Γ).bind fun u Γ1 => match u with
  | .d d => .ok (.d d) Γ1
  | .lc j => match Γ1.mm[j]? with
    | some (.p d) => .ok (.d d) (fz j d Γ1)
    | _ => .st
theorem se_fz (h : SE K W te e) : SE K W te (sFz e) := fun Γ σ m A Q p => by
  refine h.step A p fun u Γ1 m1 v n1 A1 r1 p1 => ?_
  cases r1 with
  | d r => exact p1 m1 v .refl A1 (.d r)
  | @lc j hj =>
    dsimp only at p1
    cases q : Γ1.mm[j]? with
    | none => rw [q] at p1; exact p1.elim
    | some x =>
      rw [q] at p1
      cases x with
      | p d =>
        obtain ⟨I2, A2, r2, n2⟩ := A1.fz q
        exact p1 ⟨I2, m1.H, m1.as⟩ _ n2 A2 (.d r2)
      | n us => exact p1.elim
      | gone => exact p1.elim
/-- what is returned as it lies, new: the asker may change it -/
def sRetF (e : Sg → Rs U) : Sg → Rs Fl := fun Γ => (e Γ).bind fun u Γ1 => match u with
  | .lc j => (match Γ1.mm[j]? with
    | some (.p d) => .ok (.rf j d) Γ1
    | _ => .st)
  | _ => .st
theorem ss_retF (h : SE K W te e) : SS K W (tRet te) (sRetF e) := fun Γ σ m De A p => by
  refine h.stepS A p fun u Γ1 m1 v n1 A1 r1 p1 => ?_
  cases r1 with
  | d r => exact p1.elim
  | @lc j hj =>
    dsimp only at p1
    cases q : Γ1.mm[j]? with
    | none => rw [q] at p1; exact p1.elim
    | some x =>
      rw [q] at p1
      cases x with
      | p d =>
        obtain ⟨n0, o, ho, r⟩ := A1.mm j _ q
        exact p1 σ m1 o .refl A1 q n0 ho r
      | n us => exact p1.elim
      | gone => exact p1.elim
/-! ### comprehensions -/
def wipeS (sl : List (Option U)) : List Nat → List (Option U)
  | [] => sl
  | v :: vs => (wipeS sl vs).set v none
def lcL (sl : List (Option U)) (vs : List Nat) (tg : U → Sg → Option Sg) (tt : Sg → Rs Bool) (te : Sg → Rs U) : List D → Sg → List D → Rs (List D)
  | [], Γ, acc => .ok acc Γ
  | x :: xs, Γ, acc => match tg (.d x) ⟨wipeS sl vs, Γ.mm⟩ with
    | none => .st
    | some Γ1 => match tt Γ1 with
      | .ok false Γ2 => lcL sl vs tg tt te xs ⟨sl, Γ2.mm⟩ acc
      | .ok true Γ2 => (match te Γ2 with
        | .ok (.d d) Γ3 => lcL sl vs tg tt te xs ⟨sl, Γ3.mm⟩ (acc ++ [d])
        | _ => .st)
      | _ => .st
def sLc (src : Sg → Rs (List D)) (tg : U → Sg → Option Sg) (tt : Sg → Rs Bool) (te : Sg → Rs U) (vs : List Nat) : Sg → Rs U := fun Γ => (src Γ).bind fun xs Γ1 => if xs.length ≤ 10000000 then (match lcL Γ1.sl vs tg tt te xs Γ1 [] with
    | .ok ds Γ2 => .ok (.d (.lst ds)) Γ2
    | _ => .st) else .st
def sLcA (src : Sg → Rs (List D)) (tg : U → Sg → Option Sg) (tt : Sg → Rs Bool) (te : Sg → Rs U) (vs : List Nat) : Sg → Rs U := fun Γ => (src Γ).bind fun xs Γ1 => if xs.length ≤ 10000000 then (match lcL Γ1.sl vs tg tt te xs Γ1 [] with
    | .ok ds Γ2 => .ok (.lc Γ2.mm.length) ⟨Γ2.sl, Γ2.mm ++ [.p (.lst ds)]⟩
    | _ => .st) else .st
theorem wipeS_len {sl : List (Option U)} : ∀ {vs : List Nat}, (wipeS sl vs).length = sl.length
  | [] => rfl
  | v :: vs => by unfold wipeS; rw [List.length_set, wipeS_len]
theorem wipeS_get {sl : List (Option U)} {i : Nat} {u : U} : ∀ {vs : List Nat}, (wipeS sl vs)[i]? = some (some u) → sl[i]? = some (some u) ∧ i ∉ vs
  | [], h => ⟨h, by simp⟩
  | v :: vs, h => by
    unfold wipeS at h
    rcases set_get h with ⟨_, z, _⟩ | ⟨ne, z⟩
    · cases z
    · obtain ⟨a, b⟩ := wipeS_get z
      exact ⟨a, by simp [ne, b]⟩
theorem At.wipe {K : PySem.W.Frag} {σ : L2.St} {m : Wd} {Γ : Sg} (A : At K σ m Γ) (vs : List Nat) : At K (wipe σ vs) m ⟨wipeS Γ.sl vs, Γ.mm⟩ :=
  A.sls (fun i u h => by
    obtain ⟨h1, h2⟩ := wipeS_get h
    obtain ⟨v, e, r⟩ := A.sl i u h1
    exact ⟨v, by rw [G.wipe_get h2]; exact e, r⟩) (by rw [wipe_length, wipeS_len, A.len])
/-- the slots as they were, the cells as they are -/
theorem At.back {K : PySem.W.Frag} {σ σ' : L2.St} {m m' : Wd} {Γ Γ' : Sg} (A : At K σ m Γ) (B : At K σ' m' Γ') (x : Nx m Γ.mm m' Γ'.mm) : At K σ m' ⟨Γ.sl, Γ'.mm⟩ :=
  B.sls (fun i u h => by
    obtain ⟨v, e, r⟩ := A.sl i u h
    exact ⟨v, e, r.mono x⟩) A.len
theorem lc_go {wi : TI} {g : TG} {tt : TT} {te : TE} {vs ws : List Nat} {tg : U → Sg → Option Sg} {t : Sg → Rs Bool} {e : Sg → Rs U} {K : PySem.W.Frag} {Γ Γ2 : Sg} {σ : L2.St} {m1 : Wd} {J : It} {xs ds : List D} {Q : VK}
    (h2 : Tg K g ws tg) (hws : ∀ j ∈ ws, j ∈ vs) (h3 : ST K (fun _ _ _ _ => False) tt t) (h4 : SE K (fun _ _ _ _ => False) te e) (A1 : At K σ m1 Γ) (hw : IsW K m1.I J xs) (hl : xs.length ≤ 10000000) (hr : lcL Γ.sl vs tg t e xs Γ [] = .ok ds Γ2)
    (q : ∀ m' Dd vs', Nx m1 Γ.mm m' Γ2.mm → At K σ m' Γ2 → m'.I Dd = none → m1.H Dd = none → (∀ j, live Γ2.mm j → m'.as j ≠ Dd) → m'.H Dd = some (.lst vs') → Rps K m'.I vs' ds → Q (.ref Dd) m'.H) :
    ∀ Dd, m1.H Dd = none → ∃ W : Nat → Nat → Hp → Prop, (∃ n, W 0 n (upd m1.H Dd (.lst []))) ∧ ∀ i n H, W i n H →
      (J.stop i H ∧ Q (.ref Dd) H) ∨ (J.go i H ∧ ∃ Nx : Hp → Prop, (∀ H', Nx H' → ∃ n', n' < n ∧ W (i + 1) n' H') ∧ ∀ x H', J.yld i H x H' → g x (wipe σ vs) H' fun σ2 H2 => wipe σ2 vs = wipe σ vs ∧ tt σ2 H2 fun b H3 =>
        if b = true then te σ2 H3 fun y H4 => ∃ acc, H4 Dd = some (.lst acc) ∧ acc.length < sizeLine ∧ Nx (upd H4 Dd (.lst (acc ++ [y]))) else Nx H3) := fun Dd hD => by
  obtain ⟨Gc, Y, w, hg, hy⟩ := hw
  have gj := Gr.junk (m := []) (o := HO.lst []) A1.ih hD
  refine lc_it (Qd := fun H => Q (.ref Dd) H) w (fun i H => ∃ m2 Γi acc va, m2.H = H ∧ Nx m1 Γ.mm m2 Γi.mm ∧ At K σ m2 Γi ∧ Γi.sl = Γ.sl ∧ m2.I Dd = none ∧ (∀ j, live Γi.mm j → m2.as j ≠ Dd) ∧ m2.H Dd = some (.lst va) ∧ Rps K m2.I va acc ∧ acc.length ≤ i ∧ lcL Γ.sl vs tg t e (xs.drop i) Γi acc = .ok ds Γ2)
    ⟨⟨m1.I, upd m1.H Dd (.lst []), m1.as⟩, Γ, [], [], rfl, .g gj, A1.g gj, rfl, A1.ih.free hD, A1.fresh hD, upd_same, .nil, Nat.le_refl _, hr⟩ (fun i H _ ⟨m2, Γi, _, _, e, nx, A, _⟩ => hg m2.I H nx.ex (e ▸ A.ih)) ?_ ?_
  · rintro i x H H' hi ⟨m2, Γi, acc, va, rfl, nx2, A2, es, n2, fr2, a2, r2, la, p2⟩ y
    obtain ⟨I3, d, g3, hd, rd⟩ := hy i m2.H x H' m2.I hi y nx2.ex A2.ih
    have ed : xs.drop i = d :: xs.drop (i + 1) := by
      rw [List.drop_eq_getElem_cons hi]
      rw [List.getElem?_eq_getElem hi] at hd
      cases hd
      rfl
    rw [ed, lcL] at p2
    have A3 := A2.g g3
    have nx3 : Nx m1 Γ.mm ⟨I3, H', m2.as⟩ Γi.mm := nx2.trans (.g g3)
    have n3 : I3 Dd = none := g3.none_i n2 (by rw [a2]; exact nofun)
    have a3 := g3.ex _ _ a2
    have Aw := A3.wipe vs
    rw [es] at Aw
    cases hg1 : tg (.d d) ⟨wipeS Γ.sl vs, Γi.mm⟩ with
    | none => rw [hg1] at p2; cases p2
    | some Γ4 =>
      rw [hg1] at p2
      dsimp only at p2
      refine h2.run ⟨wipeS Γ.sl vs, Γi.mm⟩ Γ4 (wipe σ vs) ⟨I3, H', m2.as⟩ _ x Aw (.d rd) hg1 _ fun σ' A4 hm k' n' => ⟨G.wipe_eq k' n' hws, ?_⟩
      have hm : Γ4.mm = Γi.mm := hm
      rw [← hm] at nx3 fr2
      -- the list that grows is no cell: it stays
      have stay : ∀ (m' : Wd) (mm' : List Cell), Nx ⟨I3, H', m2.as⟩ Γ4.mm m' mm' → m'.H Dd = some (.lst va) ∧ m'.I Dd = none ∧ ∀ j, live mm' j → m'.as j ≠ Dd := fun m' mm' nx =>
        ⟨nx.kp Dd _ a3 fr2, (nx.fr Dd (by show H' Dd ≠ none; rw [a3]; exact nofun) fr2).trans n3, nx.apart (by show H' Dd ≠ none; rw [a3]; exact nofun) fr2⟩
      cases ht : t Γ4 with
      | st => rw [ht] at p2; cases p2
      | ex _ _ => rw [ht] at p2; cases p2
      | ok b Γ5 =>
        rw [ht] at p2
        refine h3 Γ4 σ' ⟨I3, H', m2.as⟩ A4 _ ?_
        rw [ht]
        intro m5 b' nx5 A5 hb
        obtain rfl : b' = b := hb
        have A3' : At K σ ⟨I3, H', m2.as⟩ ⟨Γi.sl, Γ4.mm⟩ := by rw [hm]; exact A3
        cases b' with
        | false =>
          rw [if_neg Bool.false_ne_true]
          obtain ⟨s1, s2, s3⟩ := stay m5 Γ5.mm nx5
          have B := A3'.back A5 nx5
          rw [es] at B
          exact ⟨m5, ⟨Γ.sl, Γ5.mm⟩, acc, va, rfl, nx3.trans nx5, B, rfl, s2, s3, s1, r2.mono (g3.i.trans nx5.ex), Nat.le_succ_of_le la, p2⟩
        | true =>
          rw [if_pos rfl]
          dsimp only at p2
          cases he : e Γ5 with
          | st => rw [he] at p2; cases p2
          | ex _ _ => rw [he] at p2; cases p2
          | ok u Γ6 =>
            rw [he] at p2
            refine h4 Γ5 σ' m5 A5 _ ?_
            rw [he]
            intro m6 v6 nx6 A6 r6
            cases r6 with
            | lc _ => cases p2
            | @d _ dd r6 =>
              dsimp only at p2
              have nx56 := nx5.trans nx6
              obtain ⟨s1, s2, s3⟩ := stay m6 Γ6.mm nx56
              have B := A3'.back A6 nx56
              rw [es] at B
              have r7 : Rps K m6.I (va ++ [v6]) (acc ++ [dd]) := (r2.mono (g3.i.trans nx56.ex)).append (.one r6)
              refine ⟨va, s1, by rw [r2.length, sizeLine_eq]; omega, ?_⟩
              -- the list at Dd changes
              have B' : At K σ ⟨m6.I, upd m6.H Dd (.lst (va ++ [v6])), m6.as⟩ ⟨Γ.sl, Γ6.mm⟩ := by
                refine ⟨fun a u q => ?_, B.sl, fun j c hc => ?_, B.ne, B.len⟩
                · have z : a ≠ Dd := fun z => by rw [z, s2] at q; cases q
                  show upd m6.H Dd _ a = some u
                  rw [upd_ne z]; exact B.ih a u q
                · have q := B.mm j c hc
                  by_cases hq : c = .gone
                  · subst hq; trivial
                  · have ne := s3 j ⟨c, hc, hq⟩
                    cases c with
                    | p d => obtain ⟨a1, o1, b1, c1⟩ := q; exact ⟨a1, o1, by show upd m6.H Dd _ _ = _; rw [upd_ne ne]; exact b1, c1⟩
                    | n us => obtain ⟨a1, o1, b1, c1⟩ := q; exact ⟨a1, o1, by show upd m6.H Dd _ _ = _; rw [upd_ne ne]; exact b1, c1⟩
                    | gone => trivial
              have nx7 : Nx m1 Γ.mm ⟨m6.I, upd m6.H Dd (.lst (va ++ [v6])), m6.as⟩ Γ6.mm := by
                have n := nx3.trans nx56
                refine ⟨n.ex, fun a o h hn => ?_, n.fr, fun a h => ?_, n.as, n.le, n.nw⟩
                · show upd m6.H Dd _ a = some o
                  rw [upd_ne (ne_of_none h hD)]; exact n.kp a o h hn
                · show upd m6.H Dd _ a ≠ none
                  by_cases z : a = Dd
                  · rw [z, upd_same]; exact nofun
                  · rw [upd_ne z]; exact n.th a h
              exact ⟨_, ⟨Γ.sl, Γ6.mm⟩, acc ++ [dd], va ++ [v6], rfl, nx7, B', rfl, s2, s3, upd_same, r7, by rw [List.length_append]; exact Nat.succ_le_succ la, p2⟩
  · rintro H ⟨m2, Γi, acc, va, rfl, nx2, A2, es, n2, fr2, a2, r2, la, p2⟩
    rw [List.drop_length, lcL] at p2
    cases p2
    exact q m2 Dd va nx2 A2 n2 hD fr2 a2 r2
theorem se_lc {wi : TI} {g : TG} {tt : TT} {te : TE} {vs ws : List Nat} {src : Sg → Rs (List D)} {tg : U → Sg → Option Sg} {t : Sg → Rs Bool} {e : Sg → Rs U} (h1 : SI K W wi src) (h2 : Tg K g ws tg) (h3 : ST K (fun _ _ _ _ => False) tt t) (h4 : SE K (fun _ _ _ _ => False) te e) (hws : ∀ j ∈ ws, j ∈ vs := by decide) : SE K W (tLc wi g tt te vs) (sLc src tg t e vs) := fun Γ σ m A Q p => by
  refine h1.step A p fun xs Γ1 m1 J n1 A1 hw p1 => ?_
  split at p1
  · rename_i hl
    cases hr : lcL Γ1.sl vs tg t e xs Γ1 [] with
    | st => rw [hr] at p1; exact p1.elim
    | ex _ _ => rw [hr] at p1; exact p1.elim
    | ok ds Γ2 =>
      rw [hr] at p1
      refine lc_go (wi := wi) h2 hws h3 h4 A1 hw hl hr fun m' Dd vs' nx B n0 n1 fr hd r => ?_
      have e1 : Ex m'.I (upd m'.I Dd (.lst vs')) := Ex.new n0
      refine p1 ⟨upd m'.I Dd (.lst vs'), m'.H, m'.as⟩ (.ref Dd) ⟨nx.ex.trans e1, nx.kp, fun a h n => ?_, nx.th, nx.as, nx.le, nx.nw⟩ ⟨fun a u h => ?_, fun i u h => ?_, fun j c hc => ?_, B.ne, B.len⟩ (.d (.lst upd_same (r.mono e1)))
      · show upd m'.I Dd _ a = m1.I a
        rw [upd_ne (fun z => h (by rw [z]; exact n1))]; exact nx.fr a h n
      · by_cases z : a = Dd
        · subst z
          have h : upd m'.I a (.lst vs') a = some u := h
          rw [upd_same] at h
          rw [← h]; exact hd
        · have h : upd m'.I Dd (.lst vs') a = some u := h
          rw [upd_ne z] at h; exact B.ih a u h
      · obtain ⟨v, q1, q2⟩ := B.sl i u h
        exact ⟨v, q1, q2.up e1 (fun _ _ => rfl) (Nat.le_refl _)⟩
      · have q := B.mm j c hc
        by_cases hq : c = .gone
        · subst hq; trivial
        · have ne := fr j ⟨c, hc, hq⟩
          cases c with
          | p d => obtain ⟨a1, o1, b1, c1⟩ := q; exact ⟨by show upd m'.I Dd _ _ = _; rw [upd_ne ne]; exact a1, o1, b1, c1.mono e1⟩
          | n us => obtain ⟨a1, o1, b1, c1⟩ := q; exact ⟨by show upd m'.I Dd _ _ = _; rw [upd_ne ne]; exact a1, o1, b1, c1.up e1 (fun _ _ => rfl) (Nat.le_refl _)⟩
          | gone => trivial
  · exact p1.elim
theorem se_lcA {wi : TI} {g : TG} {tt : TT} {te : TE} {vs ws : List Nat} {src : Sg → Rs (List D)} {tg : U → Sg → Option Sg} {t : Sg → Rs Bool} {e : Sg → Rs U} (h1 : SI K W wi src) (h2 : Tg K g ws tg) (h3 : ST K (fun _ _ _ _ => False) tt t) (h4 : SE K (fun _ _ _ _ => False) te e) (hws : ∀ j ∈ ws, j ∈ vs := by decide) : SE K W (tLc wi g tt te vs) (sLcA src tg t e vs) := fun Γ σ m A Q p => by
  refine h1.step A p fun xs Γ1 m1 J n1 A1 hw p1 => ?_
  split at p1
  · rename_i hl
    cases hr : lcL Γ1.sl vs tg t e xs Γ1 [] with
    | st => rw [hr] at p1; exact p1.elim
    | ex _ _ => rw [hr] at p1; exact p1.elim
    | ok ds Γ2 =>
      rw [hr] at p1
      refine lc_go (wi := wi) h2 hws h3 h4 A1 hw hl hr fun m' Dd vs' nx B n0 n1 fr hd r => ?_
      have C := B.push (x := .p (.lst ds)) ⟨n0, _, hd, .lst r⟩ nofun fr
      have := p1 ⟨m'.I, m'.H, updA m'.as Γ2.mm.length Dd⟩ (.ref (updA m'.as Γ2.mm.length Dd Γ2.mm.length)) ⟨nx.ex, nx.kp, nx.fr, nx.th, fun j h => (updA_ne (Nat.ne_of_lt (Nat.lt_of_lt_of_le h nx.le))).trans (nx.as j h), by
        rw [List.length_append]; exact Nat.le_trans nx.le (Nat.le_add_right _ _), fun j h => ?_⟩ C (.lc (by rw [List.length_append]; exact Nat.lt_succ_self _))
      · rw [updA_same] at this
        exact this
      · show live Γ1.mm j ∨ m1.H (updA m'.as Γ2.mm.length Dd j) = none
        rcases push_live h with ⟨h1, h2⟩ | rfl
        · rw [updA_ne (Nat.ne_of_lt h1)]; exact nx.nw j h2
        · rw [updA_same]; exact .inr n1
  · exact p1.elim
end
end S

namespace S
open PySem PySem.Spec L2
open G (Ex Gr ex_l ex_t ExnAt exx exx_ok uAdd uMul uEq uNe uIn uNi uSl uLen uLt uLe uGt uGe rJoin rLo rTo rLn rLnD)
/-! ### data for == -/
mutual
def toP : D → PyData
  | .non => .none
  | .bl b => .bool b
  | .int i => .int i
  | .str s => .str s
  | .lst ds => .list (toPs ds)
  | .fl ds => .list (toPs ds)
  | .tup ds => .tuple (toPs ds)
  | .kt ds => .tuple (toPs ds)
  | _ => .none
def toPs : List D → List PyData
  | [] => []
  | d :: ds => toP d :: toPs ds
end
def okS (x : Str) : Bool := PyData.strOk x
mutual
def okD : D → Bool
  | .non => true
  | .bl _ => true
  | .int _ => true
  | .str s => okS s
  | .lst ds => okDs ds
  | .fl ds => okDs ds
  | .tup ds => okDs ds
  | .kt ds => okDs ds
  | _ => false
def okDs : List D → Bool
  | [] => true
  | d :: ds => okD d && okDs ds
end
mutual
def depD : D → Nat
  | .lst ds => depDs ds + 1
  | .fl ds => depDs ds + 1
  | .tup ds => depDs ds + 1
  | .kt ds => depDs ds + 1
  | _ => 0
def depDs : List D → Nat
  | [] => 0
  | d :: ds => max (depD d) (depDs ds)
end
mutual
theorem dp_of {K : PySem.W.Frag} {I : Hp} : ∀ {v : V} {d : D}, Rp K I v d → okD d = true → Dp K I v (toP d)
  | _, _, .non, _ => by rw [toP]; exact .non
  | _, _, .bl b, _ => by rw [toP]; exact .bl b
  | _, _, .int i, _ => by rw [toP]; exact .int i
  | _, _, .str x, _ => by rw [toP]; exact .str x
  | _, _, .lst h r, p => by rw [toP]; exact .lst (.inl (.inl h)) (dps_of r (by simpa [okD] using p))
  | _, _, .fl h r, p => by rw [toP]; exact .lst h (dps_of r (by simpa [okD] using p))
  | _, _, .tup h r, p => by rw [toP]; exact .tup (.inl (.inl h)) (dps_of r (by simpa [okD] using p))
  | _, _, .kt h r, p => by rw [toP]; exact .tup h (dps_of r (by simpa [okD] using p))
  | _, _, .dic _ _ _, p => by simp [okD] at p
  | _, _, .dit _ _ _, p => by simp [okD] at p
  | _, _, .obj _ _ _ _, p => by simp [okD] at p
  | _, _, .exn _ _ _ _ _, p => by simp [okD] at p
  | _, _, .ty _, p => by simp [okD] at p
  | _, _, .cl _, p => by simp [okD] at p
theorem dps_of {K : PySem.W.Frag} {I : Hp} : ∀ {vs : List V} {ds : List D}, Rps K I vs ds → okDs ds = true → DpAll K I vs (toPs ds)
  | _, _, .nil, _ => by rw [toPs]; exact .nil
  | _, _, .cons h r, p => by
    rw [okDs, Bool.and_eq_true] at p
    rw [toPs]; exact .cons (dp_of h p.1) (dps_of r p.2)
end
theorem dpl {K : PySem.W.Frag} {I H : Hp} {v : V} {d : D} (e : Ex I H) (r : RpL K I H v d) (p : okD d = true) : Dp K H v (toP d) := by
  cases r with
  | p r => exact G.Dp.mono' e (dp_of r p)
  | m h r =>
    cases r with
    | lst r => rw [toP]; exact .lst (.inl (.inl h)) (G.Dp.mono'.DpAll.mono'' e (dps_of r (by simpa [okD] using p)))
    | _ => simp [okD] at p
mutual
theorem okD_lay : ∀ d : D, okD d = true → (toP d).canLay0 = true ∧ (toP d).depth = depD d
  | .non, _ => by simp [toP, PyData.canLay0, PyData.depth, depD]
  | .bl _, _ => by simp [toP, PyData.canLay0, PyData.depth, depD]
  | .int _, _ => by simp [toP, PyData.canLay0, PyData.depth, depD]
  | .str s, h => by simp [toP, PyData.canLay0, PyData.depth, depD]; simpa [okD, okS] using h
  | .lst ds, h => by have := okDs_lay ds (by simpa [okD] using h); simp [toP, PyData.canLay0, PyData.depth, depD, this]
  | .fl ds, h => by have := okDs_lay ds (by simpa [okD] using h); simp [toP, PyData.canLay0, PyData.depth, depD, this]
  | .tup ds, h => by have := okDs_lay ds (by simpa [okD] using h); simp [toP, PyData.canLay0, PyData.depth, depD, this]
  | .kt ds, h => by have := okDs_lay ds (by simpa [okD] using h); simp [toP, PyData.canLay0, PyData.depth, depD, this]
  | .dic _ _, h => by simp [okD] at h
  | .dit _ _, h => by simp [okD] at h
  | .obj _ _ _, h => by simp [okD] at h
  | .exn _ _ _, h => by simp [okD] at h
  | .ty _, h => by simp [okD] at h
  | .cl _, h => by simp [okD] at h
theorem okDs_lay : ∀ ds : List D, okDs ds = true → PyData.canLayAll0 (toPs ds) = true ∧ PyData.depthAll (toPs ds) = depDs ds
  | [], _ => by simp [toPs, PyData.canLayAll0, PyData.depthAll, depDs]
  | d :: ds, h => by
    rw [okDs, Bool.and_eq_true] at h
    have h1 := okD_lay d h.1
    have h2 := okDs_lay ds h.2
    simp [toPs, PyData.canLayAll0, PyData.depthAll, depDs, h1, h2]
end
/-- data that == may be asked of -/
def eqOk (d : D) : Bool := okD d && decide (depD d ≤ 64)
theorem shaped_of {d : D} (h : eqOk d = true) : SeqAt.shaped (toP d) = true := by
  rw [eqOk, Bool.and_eq_true] at h
  have := okD_lay d h.1
  unfold SeqAt.shaped
  rw [this.1, this.2, h.2]; rfl
/-- Python's == -/
def eqv (x y : D) : Bool := PyData.eqv (toP x) (toP y)
def eqvs (x y : List D) : Bool := PyData.eqvAll (toPs x) (toPs y)
@[simp] theorem eqvs_nil : eqvs [] [] = true := by simp [eqvs, toPs, PyData.eqvAll]
@[simp] theorem eqvs_cons (x y : D) (xs ys : List D) : eqvs (x :: xs) (y :: ys) = (eqv x y && eqvs xs ys) := by simp [eqvs, eqv, toPs, PyData.eqvAll]
@[simp] theorem eqvs_nc (y : D) (ys : List D) : eqvs [] (y :: ys) = false := by simp [eqvs, toPs, PyData.eqvAll]
@[simp] theorem eqvs_cn (y : D) (ys : List D) : eqvs (y :: ys) [] = false := by simp [eqvs, toPs, PyData.eqvAll]
@[simp] theorem eqv_int (i j : Int) : eqv (.int i) (.int j) = decide (i = j) := by simp [eqv, toP, PyData.eqv]; rfl
@[simp] theorem eqv_str (i j : Str) : eqv (.str i) (.str j) = decide (i = j) := by
  simp only [eqv, toP, PyData.eqv]
  by_cases h : i = j
  · subst h; simp
  · rw [decide_eq_false h]; exact beq_eq_false_iff_ne.mpr h
@[simp] theorem eqv_bl (a b : Bool) : eqv (.bl a) (.bl b) = decide (a = b) := by cases a <;> cases b <;> simp [eqv, toP, PyData.eqv] <;> rfl
@[simp] theorem eqv_lst (x y : List D) : eqv (.lst x) (.lst y) = eqvs x y := by simp [eqv, toP, PyData.eqv, eqvs]
@[simp] theorem eqv_tup (x y : List D) : eqv (.tup x) (.tup y) = eqvs x y := by simp [eqv, toP, PyData.eqv, eqvs]
@[simp] theorem eqv_non : eqv .non .non = true := by simp [eqv, toP, PyData.eqv]
theorem eqvs_map {α : Type} [DecidableEq α] (f : α → D) (h : ∀ a b, eqv (f a) (f b) = decide (a = b)) : ∀ xs ys : List α, eqvs (xs.map f) (ys.map f) = decide (xs = ys)
  | [], [] => by simp
  | [], _ :: _ => by simp
  | _ :: _, [] => by simp
  | x :: xs, y :: ys => by
    rw [List.map_cons, List.map_cons, eqvs_cons, h, eqvs_map f h xs ys]
    by_cases a : x = y <;> by_cases b : xs = ys <;> simp [a, b]
@[simp] theorem eqvs_strs (xs ys : List Str) : eqvs (xs.map D.str) (ys.map D.str) = decide (xs = ys) := eqvs_map D.str eqv_str xs ys
@[simp] theorem eqvs_ints (xs ys : List Int) : eqvs (xs.map D.int) (ys.map D.int) = decide (xs = ys) := eqvs_map D.int eqv_int xs ys
/-! ### == != -/
/-- texts, numbers, truths of one kind are compared as they are; other data by ==, where it is laid out well -/
def eqD (x y : D) : Option D := match x, y with
  | .int i, .int j => some (.bl (decide (i = j)))
  | .str i, .str j => some (.bl (decide (i = j)))
  | .bl i, .bl j => some (.bl (decide (i = j)))
  | x, y => if eqOk x && eqOk y then some (.bl (eqv x y)) else none
def neD (x y : D) : Option D := (eqD x y).bind fun d => match d with
  | .bl b => some (.bl (!b))
  | _ => none
section
variable {K : PySem.W.Frag}
theorem bs_eq : BinS K (uEq K) eqD := fun x y d hf I H u v e r1 r2 Q q => by
  unfold eqD at hf
  split at hf
  · cases hf
    rw [r1.int, r2.int]
    refine .inl ⟨rfl, ?_⟩
    rename_i i j
    have : decide (V.int i = V.int j) = decide (i = j) := by simp
    rw [this]; exact q I H _ (Gr.refl e) (.bl _)
  · cases hf
    rw [r1.str, r2.str]
    refine .inl ⟨rfl, ?_⟩
    rename_i i j
    have : decide (V.str i = V.str j) = decide (i = j) := by simp
    rw [this]; exact q I H _ (Gr.refl e) (.bl _)
  · cases hf
    rw [r1.bl, r2.bl]
    refine .inl ⟨rfl, ?_⟩
    rename_i i j
    have : decide (V.bl i = V.bl j) = decide (i = j) := by simp
    rw [this]; exact q I H _ (Gr.refl e) (.bl _)
  · obtain ⟨hg, rfl⟩ := guard_eq hf
    rw [Bool.and_eq_true] at hg
    have h1 := hg.1; have h2 := hg.2
    simp only [eqOk, Bool.and_eq_true] at h1 h2
    exact .inr (.inl ⟨_, _, dpl e r1 h1.1, dpl e r2 h2.1, shaped_of hg.1, shaped_of hg.2, q I H _ (Gr.refl e) (.bl _)⟩)
theorem bs_ne : BinS K (uNe K) neD := fun x y d hf I H u v e r1 r2 Q q => by
  unfold neD at hf
  obtain ⟨d', hf, hd⟩ := Option.bind_eq_some_iff.mp hf
  unfold eqD at hf
  split at hf
  · cases hf
    cases hd
    rw [r1.int, r2.int]
    refine .inl ⟨rfl, ?_⟩
    rename_i i j
    have : decide (V.int i = V.int j) = decide (i = j) := by simp
    rw [this]; exact q I H _ (Gr.refl e) (.bl _)
  · cases hf
    cases hd
    rw [r1.str, r2.str]
    refine .inl ⟨rfl, ?_⟩
    rename_i i j
    have : decide (V.str i = V.str j) = decide (i = j) := by simp
    rw [this]; exact q I H _ (Gr.refl e) (.bl _)
  · cases hf
    cases hd
    rw [r1.bl, r2.bl]
    refine .inl ⟨rfl, ?_⟩
    rename_i i j
    have : decide (V.bl i = V.bl j) = decide (i = j) := by simp
    rw [this]; exact q I H _ (Gr.refl e) (.bl _)
  · obtain ⟨hg, rfl⟩ := guard_eq hf
    cases hd
    rw [Bool.and_eq_true] at hg
    have h1 := hg.1; have h2 := hg.2
    simp only [eqOk, Bool.and_eq_true] at h1 h2
    exact .inr ⟨_, _, dpl e r1 h1.1, dpl e r2 h2.1, shaped_of hg.1, shaped_of hg.2, q I H _ (Gr.refl e) (.bl _)⟩
/-! ### + - * // % ** -/
def addD (x y : D) : Option D := match x, y with
  | .int i, .int j => some (.int (i + j))
  | .str s, .str t => if s.length + t.length ≤ sizeLine then some (.str (s ++ t)) else none
  | .lst s, .lst t => if s.length + t.length ≤ sizeLine then some (.lst (s ++ t)) else none
  | .tup s, .tup t => if s.length + t.length ≤ sizeLine then some (.tup (s ++ t)) else none
  | _, _ => none
/-- lists alone, for a new one that may change -/
def catD (x y : D) : Option D := match x, y with
  | .lst s, .lst t => if s.length + t.length ≤ sizeLine then some (.lst (s ++ t)) else none
  | _, _ => none
theorem bf_cat : BinF K (uAdd K) catD := fun x y d hf I H u v e r1 r2 Q q => by
  unfold catD at hf
  split at hf
  · obtain ⟨hl, rfl⟩ := guard_eq hf
    obtain ⟨a, vs, rfl, h1, s1⟩ := r1.lst e
    obtain ⟨b, ws, rfl, h2, s2⟩ := r2.lst e
    exact .inr (.inr (.inl ⟨_, _, _, _, rfl, rfl, h1, h2, by rw [s1.length, s2.length]; exact hl, fun p hp => q p _ hp (.lst (s1.append s2))⟩))
  · cases hf
theorem rps_nil {I : Hp} {vs : List V} {ds : List D} (r : Rps K I vs ds) : vs = [] ↔ ds = [] := by cases r <;> simp
theorem bs_add : BinS K (uAdd K) addD := fun x y d hf I H u v e r1 r2 Q q => by
  unfold addD at hf
  split at hf
  · cases hf
    rw [r1.int, r2.int]
    exact .inl ⟨_, _, rfl, rfl, q I H _ (Gr.refl e) (.int _)⟩
  · obtain ⟨hl, rfl⟩ := guard_eq hf
    rw [r1.str, r2.str]
    exact .inr (.inl ⟨_, _, rfl, rfl, hl, q I H _ (Gr.refl e) (.str _)⟩)
  · rename_i s t
    exact bf_cat.s (.lst s) (.lst t) d hf I H u v e r1 r2 Q q
  · obtain ⟨hl, rfl⟩ := guard_eq hf
    obtain ⟨a, vs, rfl, i1, h1, s1⟩ := r1.tup e
    obtain ⟨b, ws, rfl, i2, h2, s2⟩ := r2.tup e
    refine .inr (.inr (.inr ⟨_, _, _, _, rfl, rfl, .inl (.inl h1), .inl (.inl h2), by rw [s1.length, s2.length]; exact hl, fun h => ?_, fun _ h => ?_, fun _ _ p hp => ?_⟩))
    · have := (rps_nil s1).mp h; subst this
      exact q I H _ (Gr.refl e) (.tup i2 s2)
    · have := (rps_nil s2).mp h; subst this
      rw [List.append_nil] at q
      exact q I H _ (Gr.refl e) (.tup i1 s1)
    · exact q _ _ _ (Gr.new e hp) (.tup upd_same ((s1.append s2).mono (Ex.new (e.free hp))))
  · cases hf
def subD (x y : D) : Option D := match x, y with
  | .int i, .int j => some (.int (i - j))
  | _, _ => none
theorem bs_sub : BinS K (rI0 fun i j => .int (i - j)) subD := fun x y d hf I H u v e r1 r2 Q q => by
  unfold subD at hf
  split at hf
  · cases hf
    rw [r1.int, r2.int]
    exact ⟨_, _, rfl, rfl, q I H _ (Gr.refl e) (.int _)⟩
  · cases hf
def mulD (x y : D) : Option D := match x, y with
  | .int i, .int j => if i.natAbs.log2 + j.natAbs.log2 < 1000000 then some (.int (i * j)) else none
  | .lst xs, .int n => if -(2 ^ 63) ≤ n ∧ n < 2 ^ 63 ∧ xs.length * n.toNat ≤ sizeLine then some (.lst (List.replicate n.toNat xs).flatten) else none
  | _, _ => none
theorem rps_rep {I : Hp} {vs : List V} {xs : List D} (r : Rps K I vs xs) : ∀ m : Nat, Rps K I (List.replicate m vs).flatten (List.replicate m xs).flatten
  | 0 => .nil
  | m + 1 => by rw [List.replicate_succ, List.replicate_succ, List.flatten_cons, List.flatten_cons]; exact r.append (rps_rep r m)
theorem bs_mul : BinS K uMul mulD := fun x y d hf I H u v e r1 r2 Q q => by
  unfold mulD at hf
  split at hf
  · obtain ⟨hl, rfl⟩ := guard_eq hf
    rw [r1.int, r2.int]
    exact .inl ⟨_, _, rfl, rfl, hl, q I H _ (Gr.refl e) (.int _)⟩
  · obtain ⟨hl, rfl⟩ := guard_eq hf
    obtain ⟨a, vs, rfl, h1, s1⟩ := r1.lst e
    rw [r2.int]
    refine .inr ⟨_, _, _, rfl, rfl, h1, hl.1, hl.2.1, by rw [s1.length]; exact hl.2.2, fun p hp => ?_⟩
    exact q _ _ _ (Gr.new e hp) (.lst upd_same ((rps_rep s1 _).mono (Ex.new (e.free hp))))
  · cases hf
def modD (x y : D) : Option D := match x, y with
  | .int i, .int j => if 0 < j then some (.int (i % j)) else none
  | _, _ => none
theorem bs_mod : BinS K (rI (fun _ j => j ≠ 0) fun i j => .int (i.fmod j)) modD := fun x y d hf I H u v e r1 r2 Q q => by
  unfold modD at hf
  split at hf
  · rename_i i j
    obtain ⟨hl, rfl⟩ := guard_eq hf
    rw [r1.int, r2.int]
    have em : i.fmod j = i % j := Int.fmod_eq_emod_of_nonneg i (Int.le_of_lt hl)
    refine ⟨_, _, rfl, rfl, by omega, ?_⟩
    show Q (V.int (i.fmod j)) H
    rw [em]
    exact q I H _ (Gr.refl e) (.int _)
  · cases hf
def divD (x y : D) : Option D := match x, y with
  | .int i, .int j => if 0 < j ∧ j < 2 ^ 64 then some (.int (i / j)) else none
  | _, _ => none
theorem bs_div : BinS K (rI CDivW fun i j => .int (i / j)) divD := fun x y d hf I H u v e r1 r2 Q q => by
  unfold divD at hf
  split at hf
  · rename_i i j
    obtain ⟨hl, rfl⟩ := guard_eq hf
    rw [r1.int, r2.int]
    refine ⟨_, _, rfl, rfl, ⟨hl.1, ?_⟩, q I H _ (Gr.refl e) (.int _)⟩
    have h2 : j.natAbs < 2 ^ 64 := by omega
    have h3 : j.natAbs ≠ 0 := by omega
    exact Nat.lt_trans ((Nat.log2_lt h3).mpr h2) (by decide)
  · cases hf
def powD (x y : D) : Option D := match x, y with
  | .int i, .int j => if 0 ≤ j ∧ j ≤ 1000000 ∧ i.natAbs < 2 ^ 64 then some (.int (i ^ j.toNat)) else none
  | _, _ => none
theorem bs_pow : BinS K (rI CPow fun i j => .int (i ^ j.toNat)) powD := fun x y d hf I H u v e r1 r2 Q q => by
  unfold powD at hf
  split at hf
  · obtain ⟨hl, rfl⟩ := guard_eq hf
    rw [r1.int, r2.int]
    exact ⟨_, _, rfl, rfl, hl, q I H _ (Gr.refl e) (.int _)⟩
  · cases hf
def negD (x : D) : Option D := match x with
  | .int i => some (.int (-i))
  | _ => none
theorem us_neg : UnS K (rU fun i => .int (-i)) negD := fun x d hf I H u e r1 Q q => by
  unfold negD at hf
  split at hf
  · cases hf
    rw [r1.int]
    exact ⟨_, rfl, q I H _ (Gr.refl e) (.int _)⟩
  · cases hf
/-! ### order -/
def ltD (x y : D) : Option D := match x, y with
  | .int i, .int j => some (.bl (decide (i < j)))
  | .str i, .str j => some (.bl (decide (i.cps.toList < j.cps.toList)))
  | _, _ => none
def leD (x y : D) : Option D := match x, y with
  | .int i, .int j => some (.bl (decide (i ≤ j)))
  | .str i, .str j => some (.bl (!decide (j.cps.toList < i.cps.toList)))
  | _, _ => none
def gtD (x y : D) : Option D := match x, y with
  | .int i, .int j => some (.bl (decide (j < i)))
  | .str i, .str j => some (.bl (decide (j.cps.toList < i.cps.toList)))
  | _, _ => none
def geD (x y : D) : Option D := match x, y with
  | .int i, .int j => some (.bl (decide (j ≤ i)))
  | .str i, .str j => some (.bl (!decide (i.cps.toList < j.cps.toList)))
  | _, _ => none
theorem bs_lt : BinS K uLt ltD := fun x y d hf I H u v e r1 r2 Q q => by
  unfold ltD at hf
  split at hf
  · cases hf; rw [r1.int, r2.int]; exact .inl ⟨_, _, rfl, rfl, q I H _ (Gr.refl e) (.bl _)⟩
  · cases hf; rw [r1.str, r2.str]; exact .inr ⟨_, _, rfl, rfl, q I H _ (Gr.refl e) (.bl _)⟩
  · cases hf
theorem bs_le : BinS K uLe leD := fun x y d hf I H u v e r1 r2 Q q => by
  unfold leD at hf
  split at hf
  · cases hf; rw [r1.int, r2.int]; exact .inl ⟨_, _, rfl, rfl, q I H _ (Gr.refl e) (.bl _)⟩
  · cases hf; rw [r1.str, r2.str]; exact .inr ⟨_, _, rfl, rfl, q I H _ (Gr.refl e) (.bl _)⟩
  · cases hf
theorem bs_gt : BinS K uGt gtD := fun x y d hf I H u v e r1 r2 Q q => by
  unfold gtD at hf
  split at hf
  · cases hf; rw [r1.int, r2.int]; exact .inl ⟨_, _, rfl, rfl, q I H _ (Gr.refl e) (.bl _)⟩
  · cases hf; rw [r1.str, r2.str]; exact .inr ⟨_, _, rfl, rfl, q I H _ (Gr.refl e) (.bl _)⟩
  · cases hf
theorem bs_ge : BinS K uGe geD := fun x y d hf I H u v e r1 r2 Q q => by
  unfold geD at hf
  split at hf
  · cases hf; rw [r1.int, r2.int]; exact .inl ⟨_, _, rfl, rfl, q I H _ (Gr.refl e) (.bl _)⟩
  · cases hf; rw [r1.str, r2.str]; exact .inr ⟨_, _, rfl, rfl, q I H _ (Gr.refl e) (.bl _)⟩
  · cases hf
/-! ### is None -/
def isNon : D → Bool
  | .non => true
  | _ => false
def isND (x y : D) : Option D := match y with
  | .non => some (.bl (isNon x))
  | _ => none
def nnND (x y : D) : Option D := match y with
  | .non => some (.bl (!isNon x))
  | _ => none
theorem isNon_v {I H : Hp} {u : V} {x : D} (r : RpL K I H u x) : decide (u = .non) = isNon x := by
  cases r with
  | p r => cases r <;> simp [isNon]
  | m _ r => cases r <;> simp [isNon]
theorem bs_isN : BinS K (fun x y H Q => y = .non ∧ Q (.bl (decide (x = .non))) H) isND := fun x y d hf I H u v e r1 r2 Q q => by
  unfold isND at hf
  split at hf
  · cases hf
    refine ⟨r2.non, ?_⟩
    rw [isNon_v r1]
    exact q I H _ (Gr.refl e) (.bl _)
  · cases hf
theorem bs_nnN : BinS K (fun x y H Q => y = .non ∧ Q (.bl (!decide (x = .non))) H) nnND := fun x y d hf I H u v e r1 r2 Q q => by
  unfold nnND at hf
  split at hf
  · cases hf
    refine ⟨r2.non, ?_⟩
    rw [isNon_v r1]
    exact q I H _ (Gr.refl e) (.bl _)
  · cases hf
end
end S

namespace S
open PySem PySem.Spec L2
open G (Ex Gr ex_l ex_t ExnAt exx exx_ok uAdd uMul uEq uNe uSl uLen uLt uLe uGt uGe rJoin rLo rTo rLn rLnD)
theorem guard_eqO {P : Prop} [Decidable P] {α : Type} {a : Option α} {d : α} (h : (if P then a else none) = some d) : P ∧ a = some d := by
  split at h
  · exact ⟨by assumption, h⟩
  · cases h
/-! ### flat data -/
def flatD : D → Bool
  | .non => true
  | .bl _ => true
  | .int _ => true
  | .str _ => true
  | _ => false
def toV : D → V
  | .bl b => .bl b
  | .int i => .int i
  | .str s => .str s
  | _ => .non
section
variable {K : PySem.W.Frag}
theorem rp_toV {I : Hp} {v : V} {d : D} (r : Rp K I v d) (f : flatD d = true) : v = toV d ∧ flatV v = true := by
  cases r <;> first | exact ⟨rfl, rfl⟩ | cases f
theorem rpl_toV {I H : Hp} {v : V} {d : D} (r : RpL K I H v d) (f : flatD d = true) : v = toV d ∧ flatV v = true := by
  cases r with
  | p r => exact rp_toV r f
  | m _ r => cases r <;> cases f
theorem rps_toV {I : Hp} : ∀ {vs : List V} {ds : List D}, Rps K I vs ds → ds.all flatD = true → vs = ds.map toV ∧ vs.all flatV = true
  | _, _, .nil, _ => ⟨rfl, rfl⟩
  | _, _, .cons h r, f => by
    rw [List.all_cons, Bool.and_eq_true] at f
    obtain ⟨a, b⟩ := rp_toV h f.1
    obtain ⟨c, d⟩ := rps_toV r f.2
    exact ⟨by rw [a, c]; rfl, by rw [List.all_cons, b, d]; rfl⟩
theorem eqV_toV {x y : D} (fx : flatD x = true) (fy : flatD y = true) : eqV (toV x) (toV y) = eqv x y := by
  cases x <;> first | (cases fx; done) | skip
  all_goals cases y <;> first | (cases fy; done) | (simp [toV, eqV, eqv, toP, PyData.eqv]; done) | (simp [toV, eqV, eqv, toP, PyData.eqv]; rfl) | skip
theorem inV_toV {x : D} (fx : flatD x = true) : ∀ {ds : List D}, ds.all flatD = true → inV (toV x) (ds.map toV) = ds.any fun z => eqv z x
  | [], _ => rfl
  | d :: ds, f => by
    rw [List.all_cons, Bool.and_eq_true] at f
    have := inV_toV fx f.2
    unfold inV at this ⊢
    rw [List.map_cons, List.any_cons, List.any_cons, eqV_toV f.1 fx, this]
theorem toPs_any {x : D} : ∀ {ds : List D}, ((toPs ds).any fun z => PyData.eqv z (toP x)) = ds.any fun z => eqv z x
  | [] => by simp [toPs]
  | d :: ds => by simp [toPs, toPs_any (x := x) (ds := ds), eqv]
/-! ### keys of dicts -/
def keyOf : D → Option Key
  | .int i => some (.inl i)
  | .str s => some (.inr s)
  | _ => none
def keysOf : List D → Option (List Key)
  | [] => some []
  | d :: ds => (keyOf d).bind fun k => (keysOf ds).bind fun ks => some (k :: ks)
def tkeyOf : D → Option (List Key)
  | .tup ds => keysOf ds
  | _ => none
theorem key_v {I H : Hp} {v : V} {d : D} {k : Key} (r : RpL K I H v d) (h : keyOf d = some k) : v = kV k := by
  cases d <;> first | (cases h; done) | skip
  · cases h; exact r.int
  · cases h; exact r.str
theorem keys_v {I : Hp} : ∀ {vs : List V} {ds : List D} {ks : List Key}, Rps K I vs ds → keysOf ds = some ks → vs = ks.map kV
  | _, _, _, .nil, h => by cases h; rfl
  | _, _, _, .cons r rs, h => by
    unfold keysOf at h
    obtain ⟨k, h1, h⟩ := Option.bind_eq_some_iff.mp h
    obtain ⟨ks, h2, h⟩ := Option.bind_eq_some_iff.mp h
    cases h
    rw [key_v (.p (H := I) r) h1, keys_v rs h2]; rfl
theorem tkey_v {I H : Hp} {v : V} {d : D} {k : List Key} (e : Ex I H) (r : RpL K I H v d) (h : tkeyOf d = some k) : ∃ b, v = .ref b ∧ H b = some (.tup (k.map kV)) := by
  cases d <;> first | (cases h; done) | skip
  obtain ⟨a, vs, rfl, _, h1, h2⟩ := r.tup e
  exact ⟨a, rfl, by rw [h1, keys_v h2 h]⟩
/-- what a table has at a key -/
def findD {κ : Type} [DecidableEq κ] : List κ → List D → κ → Option D
  | k :: ks, d :: ds, j => if k = j then some d else findD ks ds j
  | _, _, _ => none
theorem find_v {κ : Type} [DecidableEq κ] {I : Hp} {j : κ} : ∀ {ks : List κ} {vs : List V} {ds : List D}, Rps K I vs ds → ks.length = vs.length → (∀ d, findD ks ds j = some d → ∃ v, valV (ks.zip vs) j = some v ∧ Rp K I v d) ∧ (findD ks ds j = none → valV (ks.zip vs) j = none)
  | [], _, _, _, _ => ⟨fun d h => by simp [findD] at h, fun _ => rfl⟩
  | _ :: _, [], _, _, h => by cases h
  | k :: ks, _ :: _, _ :: _, .cons r rs, h => by
    have ih := find_v (j := j) (ks := ks) rs (by simpa using h)
    by_cases e : k = j
    · refine ⟨fun d q => ?_, fun q => ?_⟩
      · rw [findD, if_pos e] at q
        cases q
        exact ⟨_, by rw [List.zip_cons_cons, valV_pos e], r⟩
      · rw [findD, if_pos e] at q; cases q
    · refine ⟨fun d q => ?_, fun q => ?_⟩
      · rw [findD, if_neg e] at q
        rw [List.zip_cons_cons, valV_neg e]
        exact ih.1 d q
      · rw [findD, if_neg e] at q
        rw [List.zip_cons_cons, valV_neg e]
        exact ih.2 q
theorem find_len {κ : Type} [DecidableEq κ] {j : κ} : ∀ {ks : List κ} {ds : List D}, ks.length = ds.length → (findD ks ds j).isSome = decide (j ∈ ks)
  | [], _, _ => by simp [findD]
  | _ :: _, [], h => by cases h
  | k :: ks, d :: ds, h => by
    by_cases e : k = j
    · simp [findD, e]
    · simp [findD, e, find_len (j := j) (ks := ks) (ds := ds) (by simpa using h), Ne.symm e]
/-- a dict's value at a key, if it may be asked -/
def dgetD (x y : D) : Option (Option D) := match x with
  | .dic ks ds => if ks.length = ds.length then (keyOf y).bind fun k => some (findD ks ds k) else none
  | .dit ks ds => if ks.length = ds.length then (tkeyOf y).bind fun k => some (findD ks ds k) else none
  | _ => none
theorem dget_v {I H : Hp} {u v : V} {x y : D} {r : Option D} (e : Ex I H) (r1 : RpL K I H u x) (r2 : RpL K I H v y) (h : dgetD x y = some r) : ∃ a o, u = .ref a ∧ DGet H a v o ∧ IsD H a ∧ (∀ d, r = some d → ∃ w, o = some w ∧ Rp K I w d) ∧ (r = none → o = none) := by
  unfold dgetD at h
  split at h
  · rename_i ks ds
    split at h
    · obtain ⟨k, h1, h⟩ := Option.bind_eq_some_iff.mp h
      cases h
      obtain ⟨a, vs, rfl, h2, h3, h4⟩ := r1.dic e
      have f := find_v (j := k) h4 h3
      refine ⟨a, _, rfl, .inl ⟨_, k, .inl h2, key_v r2 h1, rfl⟩, .inl ⟨_, .inl h2⟩, fun d hd => ?_, f.2⟩
      obtain ⟨w, hw, rw⟩ := f.1 d hd
      exact ⟨w, hw, rw⟩
    · cases h
  · rename_i ks ds
    split at h
    · obtain ⟨k, h1, h⟩ := Option.bind_eq_some_iff.mp h
      cases h
      obtain ⟨a, vs, rfl, h2, h3, h4⟩ := r1.dit e
      have f := find_v (j := k) h4 h3
      obtain ⟨b, rfl, h5⟩ := tkey_v e r2 h1
      refine ⟨a, _, rfl, .inr ⟨_, k, b, .inl h2, rfl, h5, rfl⟩, .inr ⟨_, .inl h2⟩, fun d hd => ?_, f.2⟩
      obtain ⟨w, hw, rw⟩ := f.1 d hd
      exact ⟨w, hw, rw⟩
    · cases h
  · cases h
end
/-! ### in, not in -/
def rDIn : R2 := fun y x H Q => ∃ a o, x = .ref a ∧ DGet H a y o ∧ Q (.bl o.isSome) H
def rDNi : R2 := fun y x H Q => ∃ a o, x = .ref a ∧ DGet H a y o ∧ Q (.bl (!o.isSome)) H
section
variable {X : Cx}
theorem op_dIn (hu : X.A.units + 64 < cLine) : OpR X (compareOp .In) rDIn := by
  intro pins s σ H y x iv u Q I ry rx h
  obtain ⟨a, ov, ex, g, q2⟩ := h
  subst ex
  obtain rfl : u = Value.ref a := rx
  exact d_in (by omega) I g ry fun s3 I3 => ⟨.bl ov.isSome, H, I3, rfl, q2⟩
theorem op_dNi (hu : X.A.units + 64 < cLine) : OpR X (compareOp .NotIn) rDNi := by
  intro pins s σ H y x iv u Q I ry rx h
  obtain ⟨a, ov, ex, g, q2⟩ := h
  subst ex
  obtain rfl : u = Value.ref a := rx
  exact d_notIn (by omega) I g ry fun s3 I3 => ⟨.bl (!ov.isSome), H, I3, rfl, q2⟩
def uIn (K : PySem.W.Frag) : R2 := fun x y H Q => G.uIn K x y H Q ∨ (fun x y H Q => rInD K x y H Q ∨ rDIn x y H Q) x y H Q
def uNi (K : PySem.W.Frag) : R2 := fun x y H Q => G.uNi K x y H Q ∨ (fun x y H Q => rNotInD K x y H Q ∨ rDNi x y H Q) x y H Q
theorem k_in (K : PySem.W.Frag) (hu : X.A.units + 65 < cLine) (hK : X.K = K := by rfl) : OpR X (compareOp .In) (uIn K) := by subst hK; exact G.op_or G.op_uIn (G.op_or (op_inD hu) (op_dIn (by omega)))
theorem k_ni (K : PySem.W.Frag) (hu : X.A.units + 65 < cLine) (hK : X.K = K := by rfl) : OpR X (compareOp .NotIn) (uNi K) := by subst hK; exact G.op_or G.op_uNi (G.op_or (op_notInD hu) (op_dNi (by omega)))
end
def inB (x y : D) : Option Bool := match y with
  | .str z => match x with
    | .str s => (match s.cps.toList with
      | [c] => some (decide (c ∈ z.cps.toList))
      | _ => none)
    | _ => none
  | .lst ds => if flatD x && ds.all flatD then some (ds.any fun z => eqv z x) else if eqOk x && eqOk (.lst ds) then some (ds.any fun z => eqv z x) else none
  | .fl ds => if flatD x && ds.all flatD then some (ds.any fun z => eqv z x) else none
  | .tup ds => if flatD x && ds.all flatD then some (ds.any fun z => eqv z x) else none
  | .kt ds => if flatD x && ds.all flatD then some (ds.any fun z => eqv z x) else none
  | .dic ks ds => (dgetD (.dic ks ds) x).bind fun o => some o.isSome
  | .dit ks ds => (dgetD (.dit ks ds) x).bind fun o => some o.isSome
  | _ => none
def inD (x y : D) : Option D := (inB x y).bind fun b => some (.bl b)
def niD (x y : D) : Option D := (inB x y).bind fun b => some (.bl (!b))
section
variable {K : PySem.W.Frag}
theorem str1 {s : Str} {c : Nat} (h : s.cps.toList = [c]) : s = ⟨#[c]⟩ := by
  obtain ⟨a⟩ := s
  have : a = #[c] := by
    apply Array.toList_inj.mp
    exact h
  rw [this]
theorem osome {I : Hp} {o : Option V} {r : Option D} (h1 : ∀ d, r = some d → ∃ w, o = some w ∧ Rp K I w d) (h2 : r = none → o = none) : o.isSome = r.isSome := by
  cases r with
  | none => rw [h2 rfl]; rfl
  | some d => obtain ⟨w, e, _⟩ := h1 d rfl; rw [e]; rfl
theorem bs_in : BinS K (uIn K) inD := fun x y d hf I H u v e r1 r2 Q q => by
  unfold inD at hf
  obtain ⟨b, hb, hf⟩ := Option.bind_eq_some_iff.mp hf
  cases hf
  have qb := q I H _ (Gr.refl e) (.bl b)
  unfold inB at hb
  split at hb
  · split at hb
    · rename_i z _ s
      cases hs : s.cps.toList with
      | nil => simp only [hs] at hb; cases hb
      | cons c l =>
        cases l with
        | nil =>
          simp only [hs] at hb
          cases hb
          rw [r1.str, r2.str, str1 hs]
          exact .inl (.inl ⟨c, _, rfl, rfl, qb⟩)
        | cons _ _ => simp only [hs] at hb; cases hb
    · cases hb
  · rename_i ds
    split at hb
    · rename_i hg
      rw [Bool.and_eq_true] at hg
      cases hb
      obtain ⟨a, vs, rfl, h1, h2⟩ := r2.l e .lst
      obtain ⟨rfl, f1⟩ := rpl_toV r1 hg.1
      obtain ⟨rfl, f2⟩ := rps_toV h2 hg.2
      refine .inl (.inr ⟨a, _, rfl, .inl h1, f1, f2, ?_⟩)
      rw [if_neg Bool.false_ne_true, inV_toV hg.1 hg.2]; exact qb
    · split at hb
      · rename_i hg
        rw [Bool.and_eq_true] at hg
        cases hb
        have h1 := hg.1; have h2 := hg.2
        simp only [eqOk, Bool.and_eq_true] at h1 h2
        have d2 := dpl e r2 h2.1
        have s2 := shaped_of hg.2
        rw [toP] at d2 s2
        refine .inr (.inl ⟨_, _, dpl e r1 h1.1, d2, shaped_of hg.1, s2, ?_⟩)
        rw [toPs_any]; exact qb
      · cases hb
  · obtain ⟨hg, hb⟩ := guard_eq hb
    rw [Bool.and_eq_true] at hg
    subst hb
    obtain ⟨a, vs, rfl, h1, h2⟩ := r2.l e .fl
    obtain ⟨rfl, f1⟩ := rpl_toV r1 hg.1
    obtain ⟨rfl, f2⟩ := rps_toV h2 hg.2
    refine .inl (.inr ⟨a, _, rfl, .inl h1, f1, f2, ?_⟩)
    rw [if_neg Bool.false_ne_true, inV_toV hg.1 hg.2]; exact qb
  · obtain ⟨hg, hb⟩ := guard_eq hb
    rw [Bool.and_eq_true] at hg
    subst hb
    obtain ⟨a, vs, rfl, _, h1, h2⟩ := r2.t e .tup
    obtain ⟨rfl, f1⟩ := rpl_toV r1 hg.1
    obtain ⟨rfl, f2⟩ := rps_toV h2 hg.2
    refine .inl (.inr ⟨a, _, rfl, .inr h1, f1, f2, ?_⟩)
    rw [if_neg Bool.false_ne_true, inV_toV hg.1 hg.2]; exact qb
  · obtain ⟨hg, hb⟩ := guard_eq hb
    rw [Bool.and_eq_true] at hg
    subst hb
    obtain ⟨a, vs, rfl, _, h1, h2⟩ := r2.t e .kt
    obtain ⟨rfl, f1⟩ := rpl_toV r1 hg.1
    obtain ⟨rfl, f2⟩ := rps_toV h2 hg.2
    refine .inl (.inr ⟨a, _, rfl, .inr h1, f1, f2, ?_⟩)
    rw [if_neg Bool.false_ne_true, inV_toV hg.1 hg.2]; exact qb
  · obtain ⟨o, h, hb⟩ := Option.bind_eq_some_iff.mp hb
    cases hb
    obtain ⟨a, w, rfl, h1, _, h2, h3⟩ := dget_v e r2 r1 h
    exact .inr (.inr ⟨a, w, rfl, h1, by rw [osome h2 h3]; exact qb⟩)
  · obtain ⟨o, h, hb⟩ := Option.bind_eq_some_iff.mp hb
    cases hb
    obtain ⟨a, w, rfl, h1, _, h2, h3⟩ := dget_v e r2 r1 h
    exact .inr (.inr ⟨a, w, rfl, h1, by rw [osome h2 h3]; exact qb⟩)
  · cases hb
theorem bs_ni : BinS K (uNi K) niD := fun x y d hf I H u v e r1 r2 Q q => by
  unfold niD at hf
  obtain ⟨b, hb, hf⟩ := Option.bind_eq_some_iff.mp hf
  cases hf
  have qb := q I H _ (Gr.refl e) (.bl (!b))
  unfold inB at hb
  split at hb
  · split at hb
    · rename_i z _ s
      cases hs : s.cps.toList with
      | nil => simp only [hs] at hb; cases hb
      | cons c l =>
        cases l with
        | nil =>
          simp only [hs] at hb
          cases hb
          rw [r1.str, r2.str, str1 hs]
          exact .inl (.inl ⟨c, _, rfl, rfl, qb⟩)
        | cons _ _ => simp only [hs] at hb; cases hb
    · cases hb
  · rename_i ds
    split at hb
    · rename_i hg
      rw [Bool.and_eq_true] at hg
      cases hb
      obtain ⟨a, vs, rfl, h1, h2⟩ := r2.l e .lst
      obtain ⟨rfl, f1⟩ := rpl_toV r1 hg.1
      obtain ⟨rfl, f2⟩ := rps_toV h2 hg.2
      refine .inl (.inr ⟨a, _, rfl, .inl h1, f1, f2, ?_⟩)
      rw [if_pos rfl, inV_toV hg.1 hg.2]; exact qb
    · split at hb
      · rename_i hg
        rw [Bool.and_eq_true] at hg
        cases hb
        have h1 := hg.1; have h2 := hg.2
        simp only [eqOk, Bool.and_eq_true] at h1 h2
        have d2 := dpl e r2 h2.1
        have s2 := shaped_of hg.2
        rw [toP] at d2 s2
        refine .inr (.inl ⟨_, _, dpl e r1 h1.1, d2, shaped_of hg.1, s2, ?_⟩)
        rw [toPs_any]; exact qb
      · cases hb
  · obtain ⟨hg, hb⟩ := guard_eq hb
    rw [Bool.and_eq_true] at hg
    subst hb
    obtain ⟨a, vs, rfl, h1, h2⟩ := r2.l e .fl
    obtain ⟨rfl, f1⟩ := rpl_toV r1 hg.1
    obtain ⟨rfl, f2⟩ := rps_toV h2 hg.2
    refine .inl (.inr ⟨a, _, rfl, .inl h1, f1, f2, ?_⟩)
    rw [if_pos rfl, inV_toV hg.1 hg.2]; exact qb
  · obtain ⟨hg, hb⟩ := guard_eq hb
    rw [Bool.and_eq_true] at hg
    subst hb
    obtain ⟨a, vs, rfl, _, h1, h2⟩ := r2.t e .tup
    obtain ⟨rfl, f1⟩ := rpl_toV r1 hg.1
    obtain ⟨rfl, f2⟩ := rps_toV h2 hg.2
    refine .inl (.inr ⟨a, _, rfl, .inr h1, f1, f2, ?_⟩)
    rw [if_pos rfl, inV_toV hg.1 hg.2]; exact qb
  · obtain ⟨hg, hb⟩ := guard_eq hb
    rw [Bool.and_eq_true] at hg
    subst hb
    obtain ⟨a, vs, rfl, _, h1, h2⟩ := r2.t e .kt
    obtain ⟨rfl, f1⟩ := rpl_toV r1 hg.1
    obtain ⟨rfl, f2⟩ := rps_toV h2 hg.2
    refine .inl (.inr ⟨a, _, rfl, .inr h1, f1, f2, ?_⟩)
    rw [if_pos rfl, inV_toV hg.1 hg.2]; exact qb
  · obtain ⟨o, h, hb⟩ := Option.bind_eq_some_iff.mp hb
    cases hb
    obtain ⟨a, w, rfl, h1, _, h2, h3⟩ := dget_v e r2 r1 h
    exact .inr (.inr ⟨a, w, rfl, h1, by rw [osome h2 h3]; exact qb⟩)
  · obtain ⟨o, h, hb⟩ := Option.bind_eq_some_iff.mp hb
    cases hb
    obtain ⟨a, w, rfl, h1, _, h2, h3⟩ := dget_v e r2 r1 h
    exact .inr (.inr ⟨a, w, rfl, h1, by rw [osome h2 h3]; exact qb⟩)
  · cases hb
end
/-! ### x[i] -/
def rDGet : R2 := fun x y H Q => ∃ a v, x = .ref a ∧ DGet H a y (some v) ∧ Q v H
section
open PyProof.Rows
variable {X : Cx}
theorem ix_dict (hu : X.A.units + 64 < cLine) : IxR X rDGet := by
  intro value slice pins s σ H x y v u Q I rx ry h hs
  obtain ⟨a, w, rfl, g, q⟩ := h
  obtain rfl : v = Value.ref a := rx
  have hT := dict_typeIs I g
  unfold subscriptTail
  refine wpAny_bind ?_
  rw [getitemInPython_of_ne hT.not_modules]
  refine wpAny_bind (wpAny_specialOf hT PySem.F.slot_dict_getitem.lookup ?_)
  have fin : wpAny (model X.prog X.w) X.A (subscripted slice false (.ref a) u) (fun r s₃ => wpAny (model X.prog X.w) X.A (letTemporaryGo value (.ref a) r >>= fun _ => pure r) (EP X pins σ Q) X.xe s₃) X.xe s := by
    rw [hs]
    exact wpAny_operating (wpAny_mono (d_getItem (Q := fun r s₃ => EP X pins σ Q r s₃) (by omega) I g ry fun w' s3 I3 rw' => ⟨w, H, I3, rw', q⟩) (fun r s₃ h₃ => wpAny_bind (wpAny_letTemporaryGo (wpAny_pure h₃))) fun _ _ x => x)
  first
    | exact wpAny_pure (wpAny_bind fin)
    | exact wpAny_bind (wpAny_pure (wpAny_bind fin))
    | exact wpAny_bind fin
def uIx (K : PySem.W.Frag) : R2 := fun x y H Q => rIx K x y H Q ∨ rDGet x y H Q
theorem k_ix (K : PySem.W.Frag) (hu : X.A.units + 65 < cLine) (hK : X.K = K := by rfl) : IxR X (uIx K) := by subst hK; exact ix_seq.or (ix_dict (by omega))
end
def atD (ds : List D) : D → Option D
  | .int i => atI ds i
  | _ => none
def atS (z : Str) : D → Option D
  | .int i => if z.length ≤ sizeLine then (atI z.cps.toList i).map fun c => .str ⟨#[c]⟩ else none
  | _ => none
theorem atD_some {ds : List D} {y d : D} (h : atD ds y = some d) : ∃ i, y = .int i ∧ atI ds i = some d := by
  cases y <;> first | exact ⟨_, rfl, h⟩ | cases h
theorem atS_some {z : Str} {y d : D} (h : atS z y = some d) : ∃ i c, y = .int i ∧ z.length ≤ sizeLine ∧ atI z.cps.toList i = some c ∧ d = .str ⟨#[c]⟩ := by
  cases y <;> first | (cases h; done) | skip
  obtain ⟨hl, h⟩ := guard_eqO h
  obtain ⟨c, hc, rfl⟩ := Option.map_eq_some_iff.mp h
  exact ⟨_, c, rfl, hl, hc, rfl⟩
def ixD (x y : D) : Option D := match x with
  | .lst ds => atD ds y
  | .fl ds => atD ds y
  | .tup ds => atD ds y
  | .kt ds => atD ds y
  | .str z => atS z y
  | .dic ks ds => (dgetD (.dic ks ds) y).bind id
  | .dit ks ds => (dgetD (.dit ks ds) y).bind id
  | _ => none
/-- x[i]: of a list of cells a cell -/
def sIx (a b : Sg → Rs U) : Sg → Rs U := fun Γ => (a Γ).bind fun x Γ1 => (b Γ1).bind fun y Γ2 => match x with
  | .d x => ofO ((dr Γ2.mm y).bind fun y => ixD x y) Γ2
  | .lc j => match Γ2.mm[j]? with
    | some (.p x) => ofO ((dr Γ2.mm y).bind fun y => ixD x y) Γ2
    | some (.n us) => (match y with
      | .d (.int i) => (match atI us i with
        | some u => .ok u Γ2
        | none => .st)
      | _ => .st)
    | _ => .st
section
variable {K : PySem.W.Frag} {W : WX} {ta tb : TE} {a b : Sg → Rs U}
theorem rps_at {I : Hp} {vs : List V} {ds : List D} {i : Int} {d : D} (r : Rps K I vs ds) (h : atI ds i = some d) : ∃ v, atI vs i = some v ∧ Rp K I v d := by
  unfold atI at h ⊢
  rw [r.length]
  cases hx : ixN ds.length i with
  | none => rw [hx] at h; cases h
  | some j =>
    rw [hx] at h
    exact r.get (i := j) h
theorem rus_at {I : Hp} {as : Nat → Addr} {n : Nat} {vs : List V} {us : List U} {i : Int} {u : U} (r : RUs K I as n vs us) (h : atI us i = some u) : ∃ v, atI vs i = some v ∧ RU K I as n v u := by
  unfold atI at h ⊢
  rw [r.length]
  cases hx : ixN us.length i with
  | none => rw [hx] at h; cases h
  | some j =>
    rw [hx] at h
    exact r.get (i := j) h
theorem bs_ix : BinS K (uIx K) ixD := fun x y d hf I H u v e r1 r2 Q q => by
  cases x with
  | lst ds =>
    obtain ⟨i, rfl, h⟩ := atD_some hf
    obtain ⟨a, vs, rfl, h1, h2⟩ := r1.l e .lst
    obtain ⟨w, hw, rw⟩ := rps_at h2 h
    rw [r2.int]
    exact .inl (.inl ⟨a, vs, i, w, rfl, rfl, h1, hw, q I H w (Gr.refl e) rw⟩)
  | fl ds =>
    obtain ⟨i, rfl, h⟩ := atD_some hf
    obtain ⟨a, vs, rfl, h1, h2⟩ := r1.l e .fl
    obtain ⟨w, hw, rw⟩ := rps_at h2 h
    rw [r2.int]
    exact .inl (.inl ⟨a, vs, i, w, rfl, rfl, h1, hw, q I H w (Gr.refl e) rw⟩)
  | tup ds =>
    obtain ⟨i, rfl, h⟩ := atD_some hf
    obtain ⟨a, vs, rfl, _, h1, h2⟩ := r1.t e .tup
    obtain ⟨w, hw, rw⟩ := rps_at h2 h
    rw [r2.int]
    exact .inl (.inr (.inl ⟨a, vs, i, w, rfl, rfl, h1, hw, q I H w (Gr.refl e) rw⟩))
  | kt ds =>
    obtain ⟨i, rfl, h⟩ := atD_some hf
    obtain ⟨a, vs, rfl, _, h1, h2⟩ := r1.t e .kt
    obtain ⟨w, hw, rw⟩ := rps_at h2 h
    rw [r2.int]
    exact .inl (.inr (.inl ⟨a, vs, i, w, rfl, rfl, h1, hw, q I H w (Gr.refl e) rw⟩))
  | str z =>
    obtain ⟨i, c, rfl, hl, hc, rfl⟩ := atS_some hf
    rw [r1.str, r2.int]
    exact .inl (.inr (.inr ⟨z, i, c, rfl, rfl, hl, hc, q I H _ (Gr.refl e) (.str _)⟩))
  | dic ks ds =>
    obtain ⟨o, h, hd⟩ := Option.bind_eq_some_iff.mp hf
    obtain rfl : o = some d := hd
    obtain ⟨a, w, rfl, h1, _, h2, h3⟩ := dget_v e r1 r2 h
    obtain ⟨w', rfl, rw⟩ := h2 d rfl
    exact .inr ⟨a, w', rfl, h1, q I H w' (Gr.refl e) rw⟩
  | dit ks ds =>
    obtain ⟨o, h, hd⟩ := Option.bind_eq_some_iff.mp hf
    obtain rfl : o = some d := hd
    obtain ⟨a, w, rfl, h1, _, h2, h3⟩ := dget_v e r1 r2 h
    obtain ⟨w', rfl, rw⟩ := h2 d rfl
    exact .inr ⟨a, w', rfl, h1, q I H w' (Gr.refl e) rw⟩
  | _ => cases hf
theorem se_ix (h1 : SE K W ta a) (h2 : SE K W tb b) : SE K W (tOp (uIx K) ta tb) (sIx a b) := fun Γ σ m A Q p => by
  refine h1.step A p fun x Γ1 m1 v n1 A1 r1 p1 => h2.step A1 p1 fun y Γ2 m2 w n2 A2 r2 p2 => ?_
  have r1' := RU.mono n2 r1
  cases x with
  | d x =>
    obtain ⟨d, hd, q⟩ := p2.o A2
    obtain ⟨y', hy, hd⟩ := Option.bind_eq_some_iff.mp hd
    exact bs_ix x y' d hd m2.I m2.H v w A2.ih (A2.dr r1' rfl) (A2.dr r2 hy) Q q
  | lc j =>
    dsimp only at p2
    cases hj : Γ2.mm[j]? with
    | none => rw [hj] at p2; exact p2.elim
    | some c =>
      rw [hj] at p2
      cases c with
      | p x =>
        obtain ⟨d, hd, q⟩ := Post.o A2 p2
        obtain ⟨y', hy, hd⟩ := Option.bind_eq_some_iff.mp hd
        exact bs_ix x y' d hd m2.I m2.H v w A2.ih (A2.dr r1' (by simp only [S.dr, hj])) (A2.dr r2 hy) Q q
      | n us =>
        dsimp only at p2
        split at p2
        · rename_i i
          cases ha : atI us i with
          | none => rw [ha] at p2; exact p2.elim
          | some u =>
            rw [ha] at p2
            obtain ⟨_, vs, h3, h4⟩ := A2.mm j _ hj
            obtain ⟨z, hz, rz⟩ := rus_at h4 ha
            cases r1' with
            | lc _ =>
              cases r2 with
              | d r2 =>
                cases r2
                exact .inl (.inl ⟨_, vs, i, z, rfl, rfl, .inl (.inl h3), hz, p2 m2 z .refl A2 rz⟩)
        · exact p2.elim
      | gone => exact p2.elim
end
end S

namespace S
open PySem PySem.Spec L2
open G (Ex Gr ex_l ex_t ExnAt exx exx_ok uAdd uMul uEq uNe uSl uLen uLt uLe uGt uGe rJoin rLo rTo rLn rLnD XiC rIsX call_isX)
/-! ### slices -/
def cutD (xs : List D) (lo hi : Option Int) : List D := (xs.drop (HT.sIx xs.length 0 lo)).take (HT.sIx xs.length xs.length hi - HT.sIx xs.length 0 lo)
def slD (x : D) (lo hi : Option Int) : Option D := match x with
  | .lst ds => some (.lst (cutD ds lo hi))
  | .fl ds => some (.lst (cutD ds lo hi))
  | .tup ds => some (.tup (cutD ds lo hi))
  | .kt ds => if HT.sIx ds.length 0 lo = 0 ∧ HT.sIx ds.length ds.length hi = ds.length then none else some (.tup (cutD ds lo hi))
  | .str z => if z.length ≤ sizeLine then some (.str (cutS z lo hi)) else none
  | _ => none
def slL (x : D) (lo hi : Option Int) : Option D := match x with
  | .lst ds => some (.lst (cutD ds lo hi))
  | .fl ds => some (.lst (cutD ds lo hi))
  | _ => none
section
variable {K : PySem.W.Frag}
theorem rps_cut {I : Hp} {vs : List V} {ds : List D} {lo hi : Option Int} (r : Rps K I vs ds) : Rps K I (cutV vs lo hi) (cutD ds lo hi) := by
  unfold cutV cutD
  rw [r.length]
  exact (r.drop _).take _
theorem sf_l : SlF K (uSl K) slL := fun x lo hi d hf I H u e r1 Q q => by
  cases x with
  | lst ds =>
    cases hf
    obtain ⟨a, vs, rfl, h1, h2⟩ := r1.l e .lst
    exact .inl ⟨a, vs, rfl, h1, fun p hp => q p _ hp (.lst (rps_cut h2))⟩
  | fl ds =>
    cases hf
    obtain ⟨a, vs, rfl, h1, h2⟩ := r1.l e .fl
    exact .inl ⟨a, vs, rfl, h1, fun p hp => q p _ hp (.lst (rps_cut h2))⟩
  | _ => cases hf
theorem ss_slD : SlS K (uSl K) slD := fun x lo hi d hf I H u e r1 Q q => by
  cases x with
  | lst ds => exact sf_l (.lst ds) lo hi d hf I H u e r1 Q (fresh_q e q)
  | fl ds => exact sf_l (.fl ds) lo hi d hf I H u e r1 Q (fresh_q e q)
  | tup ds =>
    cases hf
    obtain ⟨a, vs, rfl, i1, h1, h2⟩ := r1.tup e
    refine .inr (.inl ⟨a, vs, rfl, .inl (.inl h1), fun hw => ?_, fun _ p hp => ?_⟩)
    · have : cutD ds lo hi = ds := by
        unfold cutD
        rw [← h2.length, hw.1, hw.2, List.drop_zero, Nat.sub_zero, h2.length]
        exact List.take_length
      rw [this] at q
      exact q I H _ (Gr.refl e) (.tup i1 h2)
    · exact q _ _ _ (Gr.new e hp) (.tup upd_same ((rps_cut h2).mono (Ex.new (e.free hp))))
  | kt ds =>
    have hf : (if HT.sIx ds.length 0 lo = 0 ∧ HT.sIx ds.length ds.length hi = ds.length then none else some (D.tup (cutD ds lo hi))) = some d := hf
    split at hf
    · cases hf
    · rename_i hn
      cases hf
      obtain ⟨a, vs, rfl, i1, h1, h2⟩ := r1.t e .kt
      refine .inr (.inl ⟨a, vs, rfl, h1, fun hw => ?_, fun _ p hp => ?_⟩)
      · rw [h2.length] at hw; exact absurd hw hn
      · exact q _ _ _ (Gr.new e hp) (.tup upd_same ((rps_cut h2).mono (Ex.new (e.free hp))))
  | str z =>
    obtain ⟨hl, rfl⟩ := guard_eq hf
    rw [r1.str]
    exact .inr (.inr ⟨z, rfl, hl, q I H _ (Gr.refl e) (.str _)⟩)
  | _ => cases hf
/-! ### len -/
def lenD : List D → Option D
  | [.str z] => if z.length ≤ sizeLine then some (.int z.length) else none
  | [.lst ds] => some (.int ds.length)
  | [.fl ds] => some (.int ds.length)
  | [.tup ds] => some (.int ds.length)
  | [.kt ds] => some (.int ds.length)
  | [.dic ks ds] => some (.int ks.length)
  | _ => none
theorem rp1 {I H : Hp} {us : List V} {x : D} (r : RpLs K I H us [x]) : ∃ u, us = [u] ∧ RpL K I H u x := by
  cases r with
  | cons a b => cases b; exact ⟨_, rfl, a⟩
theorem rp2 {I H : Hp} {us : List V} {x y : D} (r : RpLs K I H us [x, y]) : ∃ u v, us = [u, v] ∧ RpL K I H u x ∧ RpL K I H v y := by
  cases r with
  | cons a b => obtain ⟨v, rfl, c⟩ := rp1 b; exact ⟨_, v, rfl, a, c⟩
theorem ca_len : CaS K (uLen K) lenD := fun xs d hf I H us e r Q q => by
  unfold lenD at hf
  split at hf
  · obtain ⟨hl, rfl⟩ := guard_eq hf
    obtain ⟨u, rfl, r1⟩ := rp1 r
    rw [r1.str]
    exact .inl ⟨_, _, rfl, ⟨hl, rfl⟩, q I H _ (Gr.refl e) (.int _)⟩
  · cases hf
    obtain ⟨u, rfl, r1⟩ := rp1 r
    obtain ⟨a, vs, rfl, h1, h2⟩ := r1.l e .lst
    exact .inl ⟨_, _, rfl, .inl ⟨vs, h1, h2.length.symm⟩, q I H _ (Gr.refl e) (.int _)⟩
  · cases hf
    obtain ⟨u, rfl, r1⟩ := rp1 r
    obtain ⟨a, vs, rfl, h1, h2⟩ := r1.l e .fl
    exact .inl ⟨_, _, rfl, .inl ⟨vs, h1, h2.length.symm⟩, q I H _ (Gr.refl e) (.int _)⟩
  · cases hf
    obtain ⟨u, rfl, r1⟩ := rp1 r
    obtain ⟨a, vs, rfl, _, h1, h2⟩ := r1.t e .tup
    exact .inl ⟨_, _, rfl, .inr ⟨vs, h1, h2.length.symm⟩, q I H _ (Gr.refl e) (.int _)⟩
  · cases hf
    obtain ⟨u, rfl, r1⟩ := rp1 r
    obtain ⟨a, vs, rfl, _, h1, h2⟩ := r1.t e .kt
    exact .inl ⟨_, _, rfl, .inr ⟨vs, h1, h2.length.symm⟩, q I H _ (Gr.refl e) (.int _)⟩
  · cases hf
    obtain ⟨u, rfl, r1⟩ := rp1 r
    obtain ⟨a, vs, rfl, h1, h2, h3⟩ := r1.dic e
    refine .inr ⟨_, _, rfl, h1, ?_⟩
    rw [List.length_zip, ← h2, Nat.min_self]
    exact q I H _ (Gr.refl e) (.int _)
  · cases hf
/-! ### isinstance -/
inductive Kd where
  | t (n : String) | o (n : String) | x (n : String)
  deriving DecidableEq
inductive Kc where
  | t (n : String) | c (n : String)
  deriving DecidableEq
def kdOf : D → Option Kd
  | .non => some (.t "NoneType")
  | .bl _ => some (.t "bool")
  | .int _ => some (.t "int")
  | .str _ => some (.t "str")
  | .lst _ => some (.t "list")
  | .fl _ => some (.t "list")
  | .tup _ => some (.t "tuple")
  | .kt _ => some (.t "tuple")
  | .dic _ _ => some (.t "dict")
  | .dit _ _ => some (.t "dict")
  | .obj n _ _ => some (.o n)
  | .exn n _ _ => some (.x n)
  | _ => none
def kcOf : D → Option Kc
  | .ty n => some (.t n)
  | .cl n => some (.c n)
  | _ => none
structure ObjC (K : PySem.W.Frag) (C : Addr) : Prop where
  cl : Cls K C
  ha : PySem.W.findIn K (.ref C) "__class__" = some (some (.builtin "object.__class__"))
  hn : PySem.W.specialIn K (.builtin "object.__class__") "__get__" = some (some (.builtin "getset_descriptor.__get__"))
  ht : PySem.W.takesIn K (.builtin "object.__class__") = some true
  hm : PySem.W.mroIn K C (.type "object") = some true
inductive KcV (K : PySem.W.Frag) : Kc → Value → Prop
  | t (n : String) : KcV K (.t n) (.type n)
  | c {n : String} {C : Addr} : clsA K n = some C → KcV K (.c n) (.ref C)
def KdOk (K : PySem.W.Frag) (a : Kd) (v : Value) (r : Bool) : Prop := match a with
  | .t n => PySem.W.kitOne K (.type n) v = some r
  | .o n => ∀ C, clsA K n = some C → ObjC K C ∧ PySem.W.kitOne K (.ref C) v = some r
  | .x n => ∀ C, clsA K n = some C → XiC K C ∧ PySem.W.kitOne K (.ref C) v = some r
/-- what isa tells holds in the text -/
def IsaOk (K : PySem.W.Frag) (isa : Kd → Kc → Option Bool) : Prop := ∀ a b r, isa a b = some r → ∀ v, KcV K b v → KdOk K a v r
def isa1 (isa : Kd → Kc → Option Bool) : Kd → Kc → Option Bool
  | .t x, .t y => kitB x y
  | a, b => isa a b
theorem isa1_ok {isa : Kd → Kc → Option Bool} (h : IsaOk K isa) : IsaOk K (isa1 isa) := fun a b r e v hv => by
  unfold isa1 at e
  split at e
  · cases hv; exact kit_ty e
  · exact h a b r e v hv
def uIsi (K : PySem.W.Frag) : List V → Hp → VK → Prop := fun xs H Q => rIsi K xs H Q ∨ (fun xs H Q => rIsiT K xs H Q ∨ rIsX K xs H Q) xs H Q
theorem k_isi {X : Cx} (K : PySem.W.Frag) (hK : X.K = K := by rfl) : CallR X (.builtin "isinstance") (uIsi K) := by subst hK; exact G.ca_or call_isi (G.ca_or call_isiT call_isX)
def anyO : List (Option Bool) → Option Bool
  | [] => some false
  | some b :: r => (anyO r).map fun c => b || c
  | none :: _ => none
def isiD (isa : Kd → Kc → Option Bool) : List D → Option D
  | [d, .tup cs] => (kdOf d).bind fun a => match a with
    | .t n => (anyO (cs.map fun c => match c with | .ty m => kitB n m | _ => none)).bind fun b => some (.bl b)
    | _ => none
  | [d, c] => (kdOf d).bind fun a => (kcOf c).bind fun k => (isa1 isa a k).bind fun b => some (.bl b)
  | _ => none
theorem tyx_t {I H : Hp} {v : V} {d : D} {n : String} (e : Ex I H) (r : RpL K I H v d) (h : kdOf d = some (.t n)) : TyX K H v (.type n) := by
  cases d with
  | non => cases h; rw [r.non]; exact .base .non
  | bl b => cases h; rw [r.bl]; exact .base (.bl b)
  | int b => cases h; rw [r.int]; exact .base (.int b)
  | str b => cases h; rw [r.str]; exact .base (.str b)
  | lst ds => cases h; obtain ⟨a, vs, rfl, h1, _⟩ := r.lst e; exact .base (.lst h1)
  | fl ds =>
    cases h
    obtain ⟨a, vs, rfl, h1, _⟩ := r.l e .fl
    rcases h1 with (a | ⟨o, a⟩) | ⟨o, its, n, h1, h2, _⟩
    · exact .base (.lst a)
    · exact .base (.frz a)
    · exact .kList h1 h2
  | tup ds => cases h; obtain ⟨a, vs, rfl, _, h1, _⟩ := r.tup e; exact .base (.tup h1)
  | kt ds =>
    cases h
    obtain ⟨a, vs, rfl, _, h1, _⟩ := r.t e .kt
    rcases h1 with (a | ⟨o, a⟩) | ⟨o, its, n, h1, h2, _⟩
    · exact .base (.tup a)
    · exact .fTuple a
    · exact .kTuple h1 h2
  | dic ks ds => cases h; obtain ⟨a, vs, rfl, h1, _⟩ := r.dic e; exact .base (.dK h1)
  | dit ks ds => cases h; obtain ⟨a, vs, rfl, h1, _⟩ := r.dit e; exact .base (.dT h1)
  | _ => cases h
theorem kc_v {I H : Hp} {v : V} {d : D} {k : Kc} (r : RpL K I H v d) (h : kcOf d = some k) : ∃ u, ClsV v u ∧ KcV K k u ∧ ∀ w, RelV v w → w = u := by
  cases d <;> first | (cases h; done) | skip
  · cases h; rw [r.ty]; exact ⟨_, .ty _, .t _, fun w hw => hw⟩
  · cases h
    obtain ⟨C, rfl, hc⟩ := r.cl
    exact ⟨_, .own C, .c hc, fun w hw => hw⟩
theorem isi_one {isa : Kd → Kc → Option Bool} (ok : IsaOk K isa) {d c : D} {a : Kd} {k : Kc} {b : Bool} {I H : Hp} {u v : V} (e : Ex I H) (r1 : RpL K I H u d) (r2 : RpL K I H v c) (h1 : kdOf d = some a) (h2 : kcOf c = some k) (h3 : isa1 isa a k = some b) {Q : VK} (q : Q (.bl b) H) : uIsi K [u, v] H Q := by
  obtain ⟨cv, hc, hk, hr⟩ := kc_v r2 h2
  have key := isa1_ok ok a k b h3 cv hk
  cases a with
  | t n => exact .inl ⟨u, v, _, cv, b, rfl, hc, tyx_t e r1 h1, key, q⟩
  | o n =>
    cases d <;> first | (cases h1; done) | skip
    cases h1
    obtain ⟨p, C, dx, vs, rfl, hC, hp, _, _⟩ := r1.obj e
    obtain ⟨oc, hk⟩ := key C hC
    exact .inl ⟨_, v, _, cv, b, rfl, hc, .base (.ins hp oc.cl oc.ha oc.hn oc.ht oc.hm), hk, q⟩
  | x n =>
    cases d <;> first | (cases h1; done) | skip
    cases h1
    obtain ⟨p, C, dx, vs, rfl, hC, hp, hd, _, _⟩ := r1.exn e
    obtain ⟨xc, hk⟩ := key C hC
    exact .inr (.inr ⟨p, C, dx, v, cv, b, _, rfl, hr, xc, hp, hd, hk, q⟩)
theorem anyO_kit {n : String} : ∀ {cs : List D} {vs : List V} {I : Hp} {b : Bool}, Rps K I vs cs → anyO (cs.map fun c => match c with | .ty m => kitB n m | _ => none) = some b → ∃ us, Paired ClsV vs us ∧ PySem.W.kitAny K (.type n) us = some b
  | [], _, _, _, .nil, h => by cases h; exact ⟨[], .nil, kitAny_nil⟩
  | c :: cs, _, I, b, .cons (v := v) r rs, h => by
    rw [List.map_cons] at h
    cases c with
    | ty m =>
      dsimp only at h
      cases hk : kitB n m with
      | none => rw [hk] at h; cases h
      | some k =>
        rw [hk] at h
        cases r
        obtain ⟨c, hc, rfl⟩ := Option.map_eq_some_iff.mp h
        obtain ⟨us, h1, h2⟩ := anyO_kit rs hc
        refine ⟨.type m :: us, .cons (.ty m) h1, kitAny_cons (kit_ty hk) (fun z => ?_) (fun z => by rw [z]; rfl)⟩
        rw [z]; exact h2
    | _ => cases h
theorem ca_isi {isa : Kd → Kc → Option Bool} (ok : IsaOk K isa) : CaS K (uIsi K) (isiD isa) := fun xs d hf I H us e r Q q => by
  unfold isiD at hf
  split at hf
  · rename_i d0 cs
    obtain ⟨a, h1, hf⟩ := Option.bind_eq_some_iff.mp hf
    cases a with
    | t n =>
      obtain ⟨b, h2, hf⟩ := Option.bind_eq_some_iff.mp hf
      cases hf
      obtain ⟨u, v, rfl, r1, r2⟩ := rp2 r
      obtain ⟨p, vs, rfl, _, h3, h4⟩ := r2.tup e
      obtain ⟨ws, h5, h6⟩ := anyO_kit h4 h2
      exact .inr (.inl ⟨u, p, vs, _, ws, b, rfl, h3, h5, tyx_t e r1 h1, h6, q I H _ (Gr.refl e) (.bl b)⟩)
    | _ => cases hf
  · obtain ⟨a, h1, hf⟩ := Option.bind_eq_some_iff.mp hf
    obtain ⟨k, h2, hf⟩ := Option.bind_eq_some_iff.mp hf
    obtain ⟨b, h3, hf⟩ := Option.bind_eq_some_iff.mp hf
    cases hf
    obtain ⟨u, v, rfl, r1, r2⟩ := rp2 r
    exact isi_one ok e r1 r2 h1 h2 h3 (q I H _ (Gr.refl e) (.bl b))
  · cases hf
/-! ### all, any, sum, max, min, abs, int, list, tuple -/
def boolsO : List D → Option (List Bool)
  | [] => some []
  | .bl b :: r => (boolsO r).map (b :: ·)
  | _ :: _ => none
def intsO : List D → Option (List Int)
  | [] => some []
  | .int b :: r => (intsO r).map (b :: ·)
  | _ :: _ => none
def strsO : List D → Option (List Str)
  | [] => some []
  | .str b :: r => (strsO r).map (b :: ·)
  | _ :: _ => none
@[simp] theorem bools_map (bs : List Bool) : boolsO (bs.map D.bl) = some bs := by induction bs with | nil => rfl | cons b bs ih => simp [boolsO, ih]
@[simp] theorem ints_map (bs : List Int) : intsO (bs.map D.int) = some bs := by induction bs with | nil => rfl | cons b bs ih => simp [intsO, ih]
@[simp] theorem strs_map (bs : List Str) : strsO (bs.map D.str) = some bs := by induction bs with | nil => rfl | cons b bs ih => simp [strsO, ih]
theorem boolsO_eq : ∀ {ds : List D} {bs : List Bool}, boolsO ds = some bs → ds = bs.map D.bl
  | [], _, h => by cases h; rfl
  | .bl b :: r, _, h => by
    obtain ⟨c, hc, rfl⟩ := Option.map_eq_some_iff.mp h
    rw [boolsO_eq hc]; rfl
theorem intsO_eq : ∀ {ds : List D} {bs : List Int}, intsO ds = some bs → ds = bs.map D.int
  | [], _, h => by cases h; rfl
  | .int b :: r, _, h => by
    obtain ⟨c, hc, rfl⟩ := Option.map_eq_some_iff.mp h
    rw [intsO_eq hc]; rfl
theorem strsO_eq : ∀ {ds : List D} {bs : List Str}, strsO ds = some bs → ds = bs.map D.str
  | [], _, h => by cases h; rfl
  | .str b :: r, _, h => by
    obtain ⟨c, hc, rfl⟩ := Option.map_eq_some_iff.mp h
    rw [strsO_eq hc]; rfl
def itemsL : D → Option (List D)
  | .lst ds => some ds
  | .fl ds => some ds
  | _ => none
theorem items_l {d : D} {ds : List D} (h : itemsL d = some ds) : LD d ds := by
  cases d <;> first | (cases h; done) | (cases h; exact .lst) | (cases h; exact .fl)
def allD : List D → Option D
  | [d] => (itemsL d).bind fun ds => (boolsO ds).bind fun bs => some (.bl (bs.all id))
  | _ => none
def anyD : List D → Option D
  | [d] => (itemsL d).bind fun ds => (boolsO ds).bind fun bs => some (.bl (bs.any id))
  | _ => none
theorem ca_all : CaS K (rAll K) allD := fun xs d hf I H us e r Q q => by
  unfold allD at hf
  split at hf
  · obtain ⟨ds, h1, hf⟩ := Option.bind_eq_some_iff.mp hf
    obtain ⟨bs, h2, hf⟩ := Option.bind_eq_some_iff.mp hf
    cases hf
    obtain ⟨u, rfl, r1⟩ := rp1 r
    obtain ⟨a, vs, rfl, h3, h4⟩ := r1.l e (items_l h1)
    rw [boolsO_eq h2] at h4
    rw [rps_bls h4] at h3
    exact ⟨a, bs, rfl, h3, q I H _ (Gr.refl e) (.bl _)⟩
  · cases hf
theorem ca_any : CaS K (rAny K) anyD := fun xs d hf I H us e r Q q => by
  unfold anyD at hf
  split at hf
  · obtain ⟨ds, h1, hf⟩ := Option.bind_eq_some_iff.mp hf
    obtain ⟨bs, h2, hf⟩ := Option.bind_eq_some_iff.mp hf
    cases hf
    obtain ⟨u, rfl, r1⟩ := rp1 r
    obtain ⟨a, vs, rfl, h3, h4⟩ := r1.l e (items_l h1)
    rw [boolsO_eq h2] at h4
    rw [rps_bls h4] at h3
    exact ⟨a, bs, rfl, h3, q I H _ (Gr.refl e) (.bl _)⟩
  · cases hf
def sumD : List D → Option D
  | [d] => (itemsL d).bind fun ds => (intsO ds).bind fun bs => some (.int bs.sum)
  | _ => none
theorem ca_sum : CaS K (rSum K) sumD := fun xs d hf I H us e r Q q => by
  unfold sumD at hf
  split at hf
  · obtain ⟨ds, h1, hf⟩ := Option.bind_eq_some_iff.mp hf
    obtain ⟨bs, h2, hf⟩ := Option.bind_eq_some_iff.mp hf
    cases hf
    obtain ⟨u, rfl, r1⟩ := rp1 r
    obtain ⟨a, vs, rfl, h3, h4⟩ := r1.l e (items_l h1)
    rw [intsO_eq h2] at h4
    rw [rps_ints h4] at h3
    exact ⟨a, bs, rfl, h3, q I H _ (Gr.refl e) (.int _)⟩
  · cases hf
def max2D : List D → Option D
  | [.int i, .int j] => some (.int (if j > i then j else i))
  | _ => none
def min2D : List D → Option D
  | [.int i, .int j] => some (.int (if j < i then j else i))
  | _ => none
theorem ca_max2 : CaS K (fun xs H Q => ∃ i j, xs = [.int i, .int j] ∧ Q (.int (if j > i then j else i)) H) max2D := fun xs d hf I H us e r Q q => by
  unfold max2D at hf
  split at hf
  · cases hf
    obtain ⟨u, v, rfl, r1, r2⟩ := rp2 r
    rw [r1.int, r2.int]
    exact ⟨_, _, rfl, q I H _ (Gr.refl e) (.int _)⟩
  · cases hf
theorem ca_min2 : CaS K (fun xs H Q => ∃ i j, xs = [.int i, .int j] ∧ Q (.int (if j < i then j else i)) H) min2D := fun xs d hf I H us e r Q q => by
  unfold min2D at hf
  split at hf
  · cases hf
    obtain ⟨u, v, rfl, r1, r2⟩ := rp2 r
    rw [r1.int, r2.int]
    exact ⟨_, _, rfl, q I H _ (Gr.refl e) (.int _)⟩
  · cases hf
def int1D : List D → Option D
  | [.int i] => some (.int i)
  | [.bl b] => some (.int (if b then 1 else 0))
  | _ => none
theorem ca_int1 : CaS K (fun xs H Q => (∃ i, xs = [.int i] ∧ Q (.int i) H) ∨ ∃ k, xs = [.bl k] ∧ Q (.int (if k then 1 else 0)) H) int1D := fun xs d hf I H us e r Q q => by
  unfold int1D at hf
  split at hf
  · cases hf
    obtain ⟨u, rfl, r1⟩ := rp1 r
    rw [r1.int]
    exact .inl ⟨_, rfl, q I H _ (Gr.refl e) (.int _)⟩
  · cases hf
    obtain ⟨u, rfl, r1⟩ := rp1 r
    rw [r1.bl]
    exact .inr ⟨_, rfl, q I H _ (Gr.refl e) (.int _)⟩
  · cases hf
def listD : List D → Option D
  | [.lst ds] => some (.lst ds)
  | [.fl ds] => some (.lst ds)
  | [.tup ds] => some (.lst ds)
  | [.kt ds] => some (.lst ds)
  | _ => none
theorem cf_list : CaF K (rLo K) listD := fun xs d hf I H us e r Q q => by
  unfold listD at hf
  split at hf
  · cases hf
    obtain ⟨u, rfl, r1⟩ := rp1 r
    obtain ⟨a, vs, rfl, h1, h2⟩ := r1.l e .lst
    exact ⟨a, vs, rfl, .inl h1, fun p hp => q p _ hp (.lst h2)⟩
  · cases hf
    obtain ⟨u, rfl, r1⟩ := rp1 r
    obtain ⟨a, vs, rfl, h1, h2⟩ := r1.l e .fl
    exact ⟨a, vs, rfl, .inl h1, fun p hp => q p _ hp (.lst h2)⟩
  · cases hf
    obtain ⟨u, rfl, r1⟩ := rp1 r
    obtain ⟨a, vs, rfl, _, h1, h2⟩ := r1.t e .tup
    exact ⟨a, vs, rfl, .inr h1, fun p hp => q p _ hp (.lst h2)⟩
  · cases hf
    obtain ⟨u, rfl, r1⟩ := rp1 r
    obtain ⟨a, vs, rfl, _, h1, h2⟩ := r1.t e .kt
    exact ⟨a, vs, rfl, .inr h1, fun p hp => q p _ hp (.lst h2)⟩
  · cases hf
def tupD : List D → Option D
  | [.lst ds] => some (.tup ds)
  | [.fl ds] => some (.tup ds)
  | [.tup ds] => some (.tup ds)
  | _ => none
theorem ca_tup : CaS K (rTo K) tupD := fun xs d hf I H us e r Q q => by
  unfold tupD at hf
  split at hf
  · cases hf
    obtain ⟨u, rfl, r1⟩ := rp1 r
    obtain ⟨a, vs, rfl, h1, h2⟩ := r1.l e .lst
    exact ⟨a, vs, rfl, .inl ⟨h1, fun p hp => q _ _ _ (Gr.new e hp) (.tup upd_same (h2.mono (Ex.new (e.free hp))))⟩⟩
  · cases hf
    obtain ⟨u, rfl, r1⟩ := rp1 r
    obtain ⟨a, vs, rfl, h1, h2⟩ := r1.l e .fl
    exact ⟨a, vs, rfl, .inl ⟨h1, fun p hp => q _ _ _ (Gr.new e hp) (.tup upd_same (h2.mono (Ex.new (e.free hp))))⟩⟩
  · cases hf
    obtain ⟨u, rfl, r1⟩ := rp1 r
    obtain ⟨a, vs, rfl, i1, h1, h2⟩ := r1.tup e
    exact ⟨a, vs, rfl, .inr ⟨.inl (.inl h1), q I H _ (Gr.refl e) (.tup i1 h2)⟩⟩
  · cases hf
end
end S

namespace S
open PySem PySem.Spec L2 PyProof.Rows
open G (Ex Gr ex_l ex_t ExnAt exx exx_ok uAdd uMul uEq uNe uSl uLen uLt uLe uGt uGe rJoin rLo rTo rLn rLnD XiC rIsX call_isX)
/-! ### methods of texts -/
def sM1 (f : D → D → Option D) (a b : Sg → Rs U) : Sg → Rs U := fun Γ => (a Γ).bind fun x Γ1 => match x with
  | .d (.str s) => (b Γ1).bind fun y Γ2 => ofO ((dr Γ2.mm y).bind fun y => f (.str s) y) Γ2
  | _ => .st
def sM1A (f : D → D → Option D) (a b : Sg → Rs U) : Sg → Rs U := fun Γ => (a Γ).bind fun x Γ1 => match x with
  | .d (.str s) => (b Γ1).bind fun y Γ2 => ofA ((dr Γ2.mm y).bind fun y => f (.str s) y) Γ2
  | _ => .st
def sM0 (f : D → Option D) (a : Sg → Rs U) : Sg → Rs U := fun Γ => (a Γ).bind fun x Γ1 => match x with
  | .d (.str s) => ofO (f (.str s)) Γ1
  | _ => .st
section
variable {K : PySem.W.Frag} {W : WX} {ta tb te : TE} {a b e : Sg → Rs U}
theorem se_m1 {r : V → List V → Hp → VK → Prop} {f : D → D → Option D} (hr : BinS K (fun x y H Q => r x [y] H Q) f) (h1 : SE K W ta a) (h2 : SE K W tb b) : SE K W (tM1 r ta tb) (sM1 f a b) := fun Γ σ m A Q p => by
  refine h1.step A p fun x Γ1 m1 v n1 A1 r1 p1 => ?_
  split at p1
  · rename_i s
    have r1' : RU K m1.I m1.as Γ1.mm.length v (.d (.str s)) := r1
    cases r1' with
    | d r0 =>
      cases r0
      refine ⟨⟨s, rfl⟩, h2.step A1 p1 fun y Γ2 m2 w n2 A2 r2 p2 => ?_⟩
      obtain ⟨d, hd, q⟩ := p2.o A2
      obtain ⟨y', hy, hd⟩ := Option.bind_eq_some_iff.mp hd
      exact hr (.str s) y' d hd m2.I m2.H _ w A2.ih (.p (.str s)) (A2.dr r2 hy) Q q
  · exact p1.elim
theorem se_m1A {r : V → List V → Hp → VK → Prop} {f : D → D → Option D} (hr : BinF K (fun x y H Q => r x [y] H Q) f) (h1 : SE K W ta a) (h2 : SE K W tb b) : SE K W (tM1 r ta tb) (sM1A f a b) := fun Γ σ m A Q p => by
  refine h1.step A p fun x Γ1 m1 v n1 A1 r1 p1 => ?_
  split at p1
  · rename_i s
    have r1' : RU K m1.I m1.as Γ1.mm.length v (.d (.str s)) := r1
    cases r1' with
    | d r0 =>
      cases r0
      refine ⟨⟨s, rfl⟩, h2.step A1 p1 fun y Γ2 m2 w n2 A2 r2 p2 => ?_⟩
      obtain ⟨d, hd, q⟩ := p2.a A2
      obtain ⟨y', hy, hd⟩ := Option.bind_eq_some_iff.mp hd
      exact hr (.str s) y' d hd m2.I m2.H _ w A2.ih (.p (.str s)) (A2.dr r2 hy) Q q
  · exact p1.elim
theorem se_m0 {r : V → List V → Hp → VK → Prop} {f : D → Option D} (hr : UnS K (fun x H Q => r x [] H Q) f) (h1 : SE K W ta a) : SE K W (tM0 r ta) (sM0 f a) := fun Γ σ m A Q p => by
  refine h1.step A p fun x Γ1 m1 v n1 A1 r1 p1 => ?_
  split at p1
  · rename_i s
    have r1' : RU K m1.I m1.as Γ1.mm.length v (.d (.str s)) := r1
    cases r1' with
    | d r0 =>
      cases r0
      obtain ⟨d, hd, q⟩ := p1.o A1
      exact ⟨⟨s, rfl⟩, hr (.str s) d hd m1.I m1.H _ A1.ih (.p (.str s)) Q q⟩
  · exact p1.elim
def itemsS : D → Option (List D)
  | .lst ds => some ds
  | .fl ds => some ds
  | .tup ds => some ds
  | .kt ds => some ds
  | _ => none
def sumLen (ys : List Str) : Nat := (ys.map (·.length)).sum
def joinD (x y : D) : Option D := match x with
  | .str a => (itemsS y).bind fun ds => (strsO ds).bind fun ys => if sumLen ys + ys.length * a.length ≤ 16777216 then some (.str (Txt.join a ys)) else none
  | _ => none
theorem bs_join : BinS K (fun x y H Q => rJoin K x [y] H Q) joinD := fun x y d hf I H u v e r1 r2 Q q => by
  cases x <;> first | (cases hf; done) | skip
  rename_i a
  obtain ⟨ds, h1, hf⟩ := Option.bind_eq_some_iff.mp hf
  obtain ⟨ys, h2, hf⟩ := Option.bind_eq_some_iff.mp hf
  obtain ⟨hl, rfl⟩ := guard_eq hf
  rw [r1.str]
  have es := strsO_eq h2
  subst es
  cases y <;> first | (cases h1; done) | skip
  · cases h1
    obtain ⟨p, vs, rfl, h3, h4⟩ := r2.l e .lst
    rw [rps_strs h4] at h3
    exact ⟨a, p, ys, rfl, rfl, .inl h3, hl, q I H _ (Gr.refl e) (.str _)⟩
  · cases h1
    obtain ⟨p, vs, rfl, _, h3, h4⟩ := r2.t e .tup
    rw [rps_strs h4] at h3
    exact ⟨a, p, ys, rfl, rfl, .inr h3, hl, q I H _ (Gr.refl e) (.str _)⟩
  · cases h1
    obtain ⟨p, vs, rfl, h3, h4⟩ := r2.l e .fl
    rw [rps_strs h4] at h3
    exact ⟨a, p, ys, rfl, rfl, .inl h3, hl, q I H _ (Gr.refl e) (.str _)⟩
  · cases h1
    obtain ⟨p, vs, rfl, _, h3, h4⟩ := r2.t e .kt
    rw [rps_strs h4] at h3
    exact ⟨a, p, ys, rfl, rfl, .inr h3, hl, q I H _ (Gr.refl e) (.str _)⟩
def splitD (x y : D) : Option D := match x, y with
  | .str a, .str b => if (b.length == 0) = false ∧ a.length + 2 ≤ sizeLine then some (.lst ((Txt.split a b).map D.str)) else none
  | _, _ => none
theorem bf_split : BinF K (fun x y H Q => ∃ a b, x = .str a ∧ [y] = [.str b] ∧ (b.length == 0) = false ∧ a.length + 2 ≤ sizeLine ∧ rNewStrs (Txt.split a b) H Q) splitD := fun x y d hf I H u v e r1 r2 Q q => by
  unfold splitD at hf
  split at hf
  · obtain ⟨hl, rfl⟩ := guard_eq hf
    rw [r1.str, r2.str]
    exact ⟨_, _, rfl, rfl, hl.1, hl.2, fun p hp => q p _ hp (.lst rps_of_strs)⟩
  · cases hf
/-! ### sorted -/
def leS (a b : Str) : Bool := !ltCps b.cps.toList a.cps.toList
def insS (x : Str) : List Str → List Str
  | [] => [x]
  | y :: r => if leS x y then x :: y :: r else y :: insS x r
def sortS (xs : List Str) : List Str := xs.foldr insS []
theorem ltCps_irr : ∀ a : List Nat, ltCps a a = false
  | [] => rfl
  | x :: a => by simp [ltCps, ltCps_irr a]
theorem ltCps_tri : ∀ a b : List Nat, ltCps a b = false → ltCps b a = false → a = b
  | [], [], _, _ => rfl
  | [], _ :: _, h, _ => by simp [ltCps] at h
  | _ :: _, [], _, h => by simp [ltCps] at h
  | x :: a, y :: b, h1, h2 => by
    simp [ltCps] at h1 h2
    have : x = y := by omega
    subst this
    rw [ltCps_tri a b (by simpa using h1) (by simpa using h2)]
theorem ltCps_tr : ∀ a b c : List Nat, ltCps b a = false → ltCps c b = false → ltCps c a = false
  | a, b, [], h1, h2 => by
    cases a with
    | nil => rfl
    | cons x a =>
      cases b with
      | nil => simp [ltCps] at h1
      | cons y b => simp [ltCps] at h2
  | [], b, z :: c, h1, h2 => by simp [ltCps]
  | x :: a, [], z :: c, h1, h2 => by simp [ltCps] at h1
  | x :: a, y :: b, z :: c, h1, h2 => by
    simp only [ltCps, Bool.or_eq_false_iff, decide_eq_false_iff_not, Bool.and_eq_false_iff, beq_eq_false_iff_ne] at h1 h2 ⊢
    refine ⟨by omega, ?_⟩
    by_cases e : z = x
    · right
      have e1 : y = x := by omega
      have e2 : z = y := by omega
      exact ltCps_tr a b c (h1.2.resolve_left (fun z => z e1)) (h2.2.resolve_left fun z => z e2)
    · exact .inl e
theorem leS_total (a b : Str) : leS a b = true ∨ leS b a = true := by
  unfold leS
  cases h : ltCps b.cps.toList a.cps.toList with
  | false => exact .inl rfl
  | true =>
    right
    cases h2 : ltCps a.cps.toList b.cps.toList with
    | false => rfl
    | true =>
      have : ∀ a b : List Nat, ltCps b a = true → ltCps a b = true → False := by
        intro a
        induction a with
        | nil => intro b h; cases b <;> simp [ltCps] at h
        | cons x a ih =>
          intro b h1 h2
          cases b with
          | nil => simp [ltCps] at h2
          | cons y b =>
            simp [ltCps] at h1 h2
            rcases h1 with h1 | ⟨rfl, h1⟩
            · rcases h2 with h2 | ⟨rfl, h2⟩
              · omega
              · omega
            · rcases h2 with h2 | ⟨_, h2⟩
              · omega
              · exact ih b h1 h2
      exact absurd (this _ _ h h2) id
def Rise (l : List Str) : Prop := l.Pairwise fun a b => leS a b = true
theorem leS_tr {a b c : Str} (h1 : leS a b = true) (h2 : leS b c = true) : leS a c = true := by
  unfold leS at h1 h2 ⊢
  rw [ltCps_tr _ b.cps.toList _ (by simpa using h1) (by simpa using h2)]; rfl
theorem leS_anti {a b : Str} (h1 : leS a b = true) (h2 : leS b a = true) : a = b := by
  unfold leS at h1 h2
  have := ltCps_tri a.cps.toList b.cps.toList (by simpa using h2) (by simpa using h1)
  obtain ⟨a⟩ := a; obtain ⟨b⟩ := b
  have e : a = b := Array.toList_inj.mp this
  rw [e]
theorem insS_perm (x : Str) : ∀ l, (insS x l).Perm (x :: l)
  | [] => .refl _
  | y :: r => by
    unfold insS
    split
    · exact .refl _
    · exact ((insS_perm x r).cons y).trans (.swap ..)
theorem insS_rise (x : Str) : ∀ {l}, Rise l → Rise (insS x l)
  | [], _ => by simp [insS, Rise]
  | y :: r, h => by
    unfold insS
    have hp := List.pairwise_cons.mp h
    split
    · rename_i hx
      refine List.pairwise_cons.mpr ⟨fun z hz => ?_, h⟩
      rcases List.mem_cons.mp hz with rfl | hz
      · exact hx
      · exact leS_tr hx (hp.1 z hz)
    · rename_i hx
      have hy : leS y x = true := (leS_total x y).resolve_left hx
      refine List.pairwise_cons.mpr ⟨fun z hz => ?_, insS_rise x hp.2⟩
      rcases List.mem_cons.mp ((insS_perm x r).mem_iff.mp hz) with rfl | hz
      · exact hy
      · exact hp.1 z hz
theorem sortS_perm : ∀ l, (sortS l).Perm l
  | [] => .refl _
  | x :: l => (insS_perm x _).trans ((sortS_perm l).cons x)
theorem sortS_rise : ∀ l, Rise (sortS l)
  | [] => List.Pairwise.nil
  | x :: l => insS_rise x (sortS_rise l)
theorem rising_rise : ∀ {l : List Str} {x : Str}, risingS x l = true → Rise (x :: l)
  | [], _, _ => by simp [Rise]
  | y :: r, x, h => by
    unfold risingS at h
    rw [Bool.and_eq_true] at h
    have ih := rising_rise h.2
    refine List.pairwise_cons.mpr ⟨fun z hz => ?_, ih⟩
    rcases List.mem_cons.mp hz with rfl | hz
    · exact h.1
    · exact leS_tr h.1 ((List.pairwise_cons.mp ih).1 z hz)
theorem sorted_rise {l : List Str} (h : sortedS l = true) : Rise l := by
  cases l with
  | nil => exact List.Pairwise.nil
  | cons x r => exact rising_rise h
theorem rise_unique {l l' : List Str} (p : l.Perm l') (h : Rise l) (h' : Rise l') : l = l' := p.eq_of_pairwise (fun a b _ _ h1 h2 => leS_anti h1 h2) h h'
theorem sorted_is {l ys : List Str} (p : ys.Perm l) (h : sortedS ys = true) : ys = sortS l := rise_unique (p.trans (sortS_perm l).symm) (sorted_rise h) (sortS_rise l)
def keyStrs : List Key → Option (List Str)
  | [] => some []
  | .inr s :: r => (keyStrs r).map (s :: ·)
  | .inl _ :: _ => none
theorem keyStrs_eq : ∀ {ks : List Key} {ss : List Str}, keyStrs ks = some ss → ks = ss.map Sum.inr
  | [], _, h => by cases h; rfl
  | .inr s :: r, _, h => by
    obtain ⟨c, hc, rfl⟩ := Option.map_eq_some_iff.mp h
    rw [keyStrs_eq hc]; rfl
def rSortU (K : PySem.W.Frag) : List V → Hp → VK → Prop := fun xs H Q => rSortedS K xs H Q ∨ (∃ (a : Addr) (kvs : List (Key × V)) (ks : List Str), xs = [.ref a] ∧ Rd H a (.dK kvs) ∧ kvs.map (·.1) = ks.map Sum.inr ∧ ks.length < 64 ∧
    ∀ ys p, ys.Perm ks → sortedS ys = true → H p = none → Q (.ref p) (upd H p (.lst (ys.map V.str))))
theorem k_sorted {X : Cx} (K : PySem.W.Frag) (hc : X.calm = true) (hK : X.K = K := by rfl) : CallR X (.builtin "sorted") (rSortU K) := by subst hK; exact G.ca_or cr_sortedS (call_sortedD hc)
def sortedD : List D → Option D
  | [.dic ks ds] => (keyStrs ks).bind fun ss => if ss.length < 64 then some (.lst ((sortS ss).map D.str)) else none
  | [d] => (itemsL d).bind fun ds => (strsO ds).bind fun ss => if ss.length < 64 then some (.lst ((sortS ss).map D.str)) else none
  | _ => none
theorem cf_sorted : CaF K (rSortU K) sortedD := fun xs d hf I H us e r Q q => by
  unfold sortedD at hf
  split at hf
  · obtain ⟨ss, h1, hf⟩ := Option.bind_eq_some_iff.mp hf
    obtain ⟨hl, rfl⟩ := guard_eq hf
    obtain ⟨u, rfl, r1⟩ := rp1 r
    obtain ⟨a, vs, rfl, h2, h3, h4⟩ := r1.dic e
    refine .inr ⟨a, _, ss, rfl, .inl h2, ?_, hl, fun ys p hp hs hn => ?_⟩
    · rw [List.map_fst_zip (by omega)]; exact keyStrs_eq h1
    · rw [sorted_is hp hs]; exact q p _ hn (.lst rps_of_strs)
  · obtain ⟨ds, h1, hf⟩ := Option.bind_eq_some_iff.mp hf
    obtain ⟨ss, h2, hf⟩ := Option.bind_eq_some_iff.mp hf
    obtain ⟨hl, rfl⟩ := guard_eq hf
    obtain ⟨u, rfl, r1⟩ := rp1 r
    obtain ⟨a, vs, rfl, h3, h4⟩ := r1.l e (items_l h1)
    rw [strsO_eq h2] at h4
    rw [rps_strs h4] at h3
    refine .inl ⟨a, ss, rfl, h3, hl, fun ys p hp hs hn => ?_⟩
    rw [sorted_is hp hs]; exact q p _ hn (.lst rps_of_strs)
  · cases hf
end
/-! ### sources -/
def signs (z : Str) : List D := z.cps.toList.map fun c => .str ⟨#[c]⟩
def itU : D → Option (List D)
  | .lst ds => some ds
  | .fl ds => some ds
  | .tup ds => some ds
  | .kt ds => some ds
  | .str z => some (signs z)
  | _ => none
def iU (a : Sg → Rs U) : Sg → Rs (List D) := fun Γ => (a Γ).bind fun u Γ1 => match (pu u).bind itU with
  | some ds => .ok ds Γ1
  | none => .st
section
variable {K : PySem.W.Frag} {W : WX} {te : TE} {e : Sg → Rs U}
theorem isw_at {I : Hp} {J : It} {vs : List V} {ds : List D} {Gc : Hp → Prop} (w : Walk J vs.length Gc (YAt vs)) (hg : ∀ I1 H1, Ex I I1 → Ex I1 H1 → Gc H1) (r : Rps K I vs ds) : IsW K I J ds :=
  ⟨Gc, YAt vs, by rw [← r.length]; exact w, hg, fun i H x H' I1 _ y e e1 => by
    obtain ⟨rfl, hx⟩ := y
    obtain ⟨d, hd, rx⟩ := r.getV hx
    exact ⟨I1, d, Gr.refl e1, hd, rx.mono e⟩⟩
theorem rp_l {I : Hp} {v : V} {d : D} {ds : List D} (r : Rp K I v d) (h : LD d ds) : ∃ a vs, v = .ref a ∧ SqL K I a vs ∧ Rps K I vs ds := by
  cases h with
  | lst => cases r with | lst a b => exact ⟨_, _, rfl, .inl (.inl a), b⟩
  | fl => cases r with | fl a b => exact ⟨_, _, rfl, a, b⟩
theorem rp_t {I : Hp} {v : V} {d : D} {ds : List D} (r : Rp K I v d) (h : LT d ds) : ∃ a vs, v = .ref a ∧ SqT K I a vs ∧ Rps K I vs ds := by
  cases h with
  | tup => cases r with | tup a b => exact ⟨_, _, rfl, .inl (.inl a), b⟩
  | kt => cases r with | kt a b => exact ⟨_, _, rfl, a, b⟩
theorem isw_str {I : Hp} {z : Str} : IsW K I (Its z) (signs z) := by
  refine ⟨fun _ => True, _, by rw [signs, List.length_map, Array.length_toList]; exact walk_str, fun _ _ _ _ => trivial, ?_⟩
  rintro i H x H' I2 hi ⟨rfl, c, hc, rfl⟩ e1 e2
  refine ⟨I2, .str ⟨#[c]⟩, Gr.refl e2, ?_, .str _⟩
  rw [signs, List.getElem?_map, Array.getElem?_toList, hc]
  rfl
theorem si_u (h : SE K W te e) : SI K W (fun σ H R => iList K te σ H R ∨ (fun σ H R => iTup K te σ H R ∨ iStr te σ H R) σ H R) (iU e) := fun Γ σ m A Q p => by
  -- which way is told by the shadow
  cases he : e Γ with
  | st => simp only [iU, he, Rs.bind_st] at p; exact p.elim
  | ex x Γ1 =>
    simp only [iU, he, Rs.bind_ex] at p
    refine .inl (h Γ σ m A _ ?_)
    rw [he]; exact p
  | ok u Γ1 =>
    simp only [iU, he, Rs.bind_ok] at p
    cases hu : (pu u).bind itU with
    | none => rw [hu] at p; exact p.elim
    | some ds =>
      rw [hu] at p
      obtain ⟨d, h1, h2⟩ := Option.bind_eq_some_iff.mp hu
      have run : ∀ {R : V → Hp → Prop}, (∀ m1 v, Nx m Γ.mm m1 Γ1.mm → At K σ m1 Γ1 → Rp K m1.I v d → R v m1.H) → te σ m.H R := fun {R} k => h Γ σ m A R (by
        rw [he]; exact fun m1 v nx A1 r => k m1 v nx A1 (RU.pu r h1))
      have lists : ∀ ds', LD d ds' → ds' = ds → (iList K te σ m.H Q ∨ (iTup K te σ m.H Q ∨ iStr te σ m.H Q)) := fun ds' hl e => by
        subst e
        refine .inl (run fun m1 v nx A1 r => ?_)
        obtain ⟨a, vs, rfl, hs, hr⟩ := rp_l r hl
        exact ⟨_, rfl, ⟨_, ex_l A1.ih hs⟩, p m1 _ nx A1 (isw_at walk_list (fun I2 H2 e1 e2 => ex_l (e1.trans e2) hs) hr)⟩
      have tups : ∀ ds', LT d ds' → ds' = ds → (iList K te σ m.H Q ∨ (iTup K te σ m.H Q ∨ iStr te σ m.H Q)) := fun ds' hl e => by
        subst e
        refine .inr (.inl (run fun m1 v nx A1 r => ?_))
        obtain ⟨a, vs, rfl, hs, hr⟩ := rp_t r hl
        exact ⟨_, rfl, ⟨_, ex_t A1.ih hs⟩, p m1 _ nx A1 (isw_at walk_tup (fun I2 H2 e1 e2 => ex_t (e1.trans e2) hs) hr)⟩
      cases d <;> first | (cases h2; done) | skip
      · cases h2
        refine .inr (.inr (run fun m1 v nx A1 r => ?_))
        cases r
        exact ⟨_, rfl, p m1 _ nx A1 isw_str⟩
      · cases h2; exact lists _ .lst rfl
      · cases h2; exact tups _ .tup rfl
      · cases h2; exact lists _ .fl rfl
      · cases h2; exact tups _ .kt rfl
theorem isw_rng {I : Hp} {lo : Int} {n : Nat} : IsW K I (Itr lo n) ((List.range n).map fun (i : Nat) => D.int (lo + (i : Int))) := by
  refine ⟨fun _ => True, _, by rw [List.length_map, List.length_range]; exact walk_range, fun _ _ _ _ => trivial, ?_⟩
  rintro i H x H' I2 hi ⟨rfl, rfl⟩ e1 e2
  rw [List.length_map, List.length_range] at hi
  refine ⟨I2, .int (lo + i), Gr.refl e2, ?_, .int _⟩
  rw [List.getElem?_map, List.getElem?_range hi]
  rfl
def rng1 : List D → Option (List D)
  | [.int n] => if -(2 ^ 62) ≤ n ∧ n < 2 ^ 62 then some ((List.range n.toNat).map fun (i : Nat) => D.int (i : Int)) else none
  | _ => none
def rng2 : List D → Option (List D)
  | [.int lo, .int n] => if -(2 ^ 62) ≤ lo ∧ lo < 2 ^ 62 ∧ -(2 ^ 62) ≤ n ∧ n < 2 ^ 62 then some ((List.range (n - lo).toNat).map fun (i : Nat) => D.int (lo + (i : Int))) else none
  | _ => none
/-- down, a step of -1 -/
def rng3 : List D → Option (List D)
  | [.int i, .int j, .int c] => if c = -1 ∧ -(2 ^ 62) ≤ i ∧ i < 2 ^ 62 ∧ -(2 ^ 62) ≤ j ∧ j < 2 ^ 62 then some ((List.range (i - j).toNat).map fun (k : Nat) => D.int (i + (k : Int) * -1)) else none
  | _ => none
def iCa (f : List D → Option (List D)) (a : Sg → Rs (List U)) : Sg → Rs (List D) := fun Γ => (a Γ).bind fun us Γ1 => match (pus us).bind f with
  | some ds => .ok ds Γ1
  | none => .st
theorem Post.w {Γ : Sg} {σ : L2.St} {m : Wd} {o : Option (List D)} {Q : It → Hp → Prop} (A : At K σ m Γ) (p : Post K W σ m Γ.mm (rW K) (match o with | some ds => Rs.ok ds Γ | none => .st) Q) : ∃ ds, o = some ds ∧ ∀ J, IsW K m.I J ds → Q J m.H := by
  cases o with
  | none => exact p.elim
  | some ds => exact ⟨ds, rfl, fun J hw => p m J .refl A hw⟩
variable {ta : TA} {s : Sg → Rs (List U)}
theorem rpsl1 {I : Hp} {vs : List V} {x : D} (r : Rps K I vs [x]) : ∃ v, vs = [v] ∧ Rp K I v x := by
  cases r with
  | cons a b => cases b; exact ⟨_, rfl, a⟩
theorem rpsl2 {I : Hp} {vs : List V} {x y : D} (r : Rps K I vs [x, y]) : ∃ v w, vs = [v, w] ∧ Rp K I v x ∧ Rp K I w y := by
  cases r with
  | cons a b => obtain ⟨w, rfl, c⟩ := rpsl1 b; exact ⟨_, w, rfl, a, c⟩
theorem rpsl3 {I : Hp} {vs : List V} {x y z : D} (r : Rps K I vs [x, y, z]) : ∃ v w u, vs = [v, w, u] ∧ Rp K I v x ∧ Rp K I w y ∧ Rp K I u z := by
  cases r with
  | cons a b => obtain ⟨w, u, rfl, c⟩ := rpsl2 b; exact ⟨_, w, u, rfl, a, c⟩
theorem si_rng1 (h : SA K W ta s) : SI K W (iRng1 ta) (iCa rng1 s) := fun Γ σ m A Q p => by
  refine h.step A p fun us Γ1 m1 vs n1 A1 r1 p1 => ?_
  obtain ⟨ds, hd, q⟩ := Post.w A1 p1
  obtain ⟨xs, h1, hd⟩ := Option.bind_eq_some_iff.mp hd
  have r := RUs.pu r1 h1
  unfold rng1 at hd
  split at hd
  · obtain ⟨hl, rfl⟩ := guard_eq hd
    obtain ⟨v, rfl, rv⟩ := rpsl1 r
    cases rv
    refine ⟨_, rfl, hl.1, hl.2, q _ ?_⟩
    have h0 := fun n => isw_rng (K := K) (I := m1.I) (lo := 0) (n := n)
    simpa using h0 _
  · cases hd
theorem si_rng2 (h : SA K W ta s) : SI K W (iRng2 ta) (iCa rng2 s) := fun Γ σ m A Q p => by
  refine h.step A p fun us Γ1 m1 vs n1 A1 r1 p1 => ?_
  obtain ⟨ds, hd, q⟩ := Post.w A1 p1
  obtain ⟨xs, h1, hd⟩ := Option.bind_eq_some_iff.mp hd
  have r := RUs.pu r1 h1
  unfold rng2 at hd
  split at hd
  · obtain ⟨hl, rfl⟩ := guard_eq hd
    obtain ⟨v, w, rfl, rv, rw⟩ := rpsl2 r
    cases rv; cases rw
    exact ⟨_, _, rfl, hl, q _ isw_rng⟩
  · cases hd
theorem isw_rngC {I : Hp} {lo c : Int} {n : Nat} : IsW K I (Itc lo c n) ((List.range n).map fun (i : Nat) => D.int (lo + (i : Int) * c)) := by
  refine ⟨fun _ => True, _, by rw [List.length_map, List.length_range]; exact walk_rangeC, fun _ _ _ _ => trivial, ?_⟩
  rintro i H x H' I2 hi ⟨rfl, rfl⟩ e1 e2
  rw [List.length_map, List.length_range] at hi
  refine ⟨I2, .int (lo + i * c), Gr.refl e2, ?_, .int _⟩
  rw [List.getElem?_map, List.getElem?_range hi]
  rfl
theorem si_rng3 (h : SA K W ta s) : SI K W (iRng3 ta) (iCa rng3 s) := fun Γ σ m A Q p => by
  refine h.step A p fun us Γ1 m1 vs n1 A1 r1 p1 => ?_
  obtain ⟨ds, hd, q⟩ := Post.w A1 p1
  obtain ⟨xs, h1, hd⟩ := Option.bind_eq_some_iff.mp hd
  have r := RUs.pu r1 h1
  unfold rng3 at hd
  split at hd
  · obtain ⟨hl, rfl⟩ := guard_eq hd
    obtain ⟨v, w, u, rfl, rv, rw, ru⟩ := rpsl3 r
    cases rv; cases rw; cases ru
    obtain ⟨rfl, h1, h2, h3, h4⟩ := hl
    exact ⟨_, _, _, _, rfl, RgC.neg h1 h2 h3 h4, q _ isw_rngC⟩
  · cases hd
theorem isw_pair {I : Hp} {J : It} {n : Nat} {xf yf : Nat → Option V} {xs : List D} {Gc : Hp → Prop} (w : Walk J n Gc (YPair xf yf)) (hn : xs.length = n) (hg : ∀ I1 H1, Ex I I1 → Ex I1 H1 → Gc H1)
    (hx : ∀ i x y, i < n → xf i = some x → yf i = some y → ∃ d e, xs[i]? = some (.tup [d, e]) ∧ Rp K I x d ∧ Rp K I y e) : IsW K I J xs := by
  refine ⟨Gc, YPair xf yf, by rw [hn]; exact w, hg, ?_⟩
  rintro i H v H' I1 hi ⟨T, x, y, rfl, hT, rfl, h1, h2⟩ e1 e2
  obtain ⟨d, e, hd, rx, ry⟩ := hx i x y (hn ▸ hi) h1 h2
  have en := Ex.new (o := .tup [x, y]) (e2.free hT)
  exact ⟨_, _, Gr.new e2 hT, hd, .tup upd_same (.cons (rx.mono (e1.trans en)) (.cons (ry.mono (e1.trans en)) .nil))⟩
def enumL (ds : List D) : List D := ds.mapIdx fun i d => .tup [.int i, d]
def enum1 : List D → Option (List D)
  | [d] => (itemsL d).map enumL
  | _ => none
theorem si_enum (h : SA K W ta s) : SI K W (iEnum K ta) (iCa enum1 s) := fun Γ σ m A Q p => by
  refine h.step A p fun us Γ1 m1 vs n1 A1 r1 p1 => ?_
  obtain ⟨ds, hd, q⟩ := Post.w A1 p1
  obtain ⟨xs, h1, hd⟩ := Option.bind_eq_some_iff.mp hd
  have r := RUs.pu r1 h1
  unfold enum1 at hd
  split at hd
  · obtain ⟨es, he, rfl⟩ := Option.map_eq_some_iff.mp hd
    obtain ⟨v, rfl, rv⟩ := rpsl1 r
    obtain ⟨a, vs, rfl, hs, hr⟩ := rp_l rv (items_l he)
    refine ⟨_, _, rfl, ex_l A1.ih hs, q _ (isw_pair walk_enum ?_ (fun I2 H2 e1 e2 => ex_l (e1.trans e2) hs) ?_)⟩
    · rw [enumL, List.length_mapIdx, hr.length]
    · intro i x y hi h1 h2
      obtain ⟨d, hd, rd⟩ := hr.getV h2
      refine ⟨.int i, d, ?_, ?_, rd⟩
      · rw [enumL, List.getElem?_mapIdx, hd]; rfl
      · cases h1; exact .int _
  · cases hd
end
end S

namespace S
open PySem PySem.Spec L2
open G (Ex Gr ex_l ex_t ExnAt exx exx_ok)
/-! ### methods that change a list of the def's own -/
def MtS (K : PySem.W.Frag) (r : V → List V → Hp → VK → Prop) (f : D → List D → Option (D × D)) : Prop := ∀ x xs d y, f x xs = some (d, y) → (∃ ds, x = .lst ds) ∧ ∀ (I H : Hp) (a : Addr) (o : HO) (vs : List V), Ex I H → I a = none → MRp K I o x → H a = some o → Rps K I vs xs →
  ∀ Q : VK, (∀ v o', Rp K I v d → MRp K I o' y → Q v (upd H a o')) → r (.ref a) vs H Q
def isLc (mm : List Cell) : U → Bool
  | .lc j => (match mm[j]? with
    | some (.p (.lst _)) => true
    | some (.n _) => true
    | _ => false)
  | _ => false
/-- recv.m(args) -/
def sMt (f : D → List D → Option (D × D)) (recv : Sg → Rs U) (args : Sg → Rs (List U)) : Sg → Rs U := fun Γ => (recv Γ).bind fun u Γ1 => if isLc Γ1.mm u then (args Γ1).bind fun us Γ2 => (match u with
  | .lc j => (match Γ2.mm[j]? with
    | some (.p x) => (match (pus us).bind (f x) with
      | some (d, y) => .ok (.d d) ⟨Γ2.sl, Γ2.mm.set j (.p y)⟩
      | none => .st)
    | _ => .st)
  | _ => .st) else .st
/-- recv.append(e): a list of data, or a list of cells -/
def sApp (recv e : Sg → Rs U) : Sg → Rs U := fun Γ => (recv Γ).bind fun u Γ1 => if isLc Γ1.mm u then (e Γ1).bind fun w Γ2 => (match u with
  | .lc j => (match Γ2.mm[j]? with
    | some (.p (.lst ds)) => (match pu w with
      | some d => if ds.length < sizeLine then .ok (.d .non) ⟨Γ2.sl, Γ2.mm.set j (.p (.lst (ds ++ [d])))⟩ else .st
      | none => .st)
    | some (.n us) => if us.length < sizeLine then .ok (.d .non) ⟨Γ2.sl, Γ2.mm.set j (.n (us ++ [w]))⟩ else .st
    | _ => .st)
  | _ => .st) else .st
section
variable {K : PySem.W.Frag} {W : WX} {to te : TE} {ta : TA} {recv e : Sg → Rs U} {args : Sg → Rs (List U)}
theorem is_lc {Γ : Sg} {σ : L2.St} {m : Wd} {v : V} {u : U} (A : At K σ m Γ) (r : RU K m.I m.as Γ.mm.length v u) (h : isLc Γ.mm u = true) : ∃ j, u = .lc j ∧ v = .ref (m.as j) ∧ j < Γ.mm.length ∧ tyV K "list" v m.H := by
  cases r with
  | d _ => cases h
  | @lc j hj =>
    refine ⟨j, rfl, rfl, hj, ?_⟩
    unfold isLc at h
    dsimp only at h
    cases q : Γ.mm[j]? with
    | none => rw [q] at h; cases h
    | some c =>
      rw [q] at h
      have ok := A.mm j c q
      cases c with
      | p d =>
        cases d <;> first | (cases h; done) | skip
        obtain ⟨_, o, ho, r⟩ := ok
        cases r
        exact .inl ⟨rfl, _, .inl (.inl ho)⟩
      | n us => obtain ⟨_, vs, ho, _⟩ := ok; exact .inl ⟨rfl, _, .inl (.inl ho)⟩
      | gone => cases h
theorem se_mt {r : V → List V → Hp → VK → Prop} {f : D → List D → Option (D × D)} (hr : MtS K r f) (h1 : SE K W to recv) (h2 : SA K W ta args) : SE K W (tBM K "list" r to ta) (sMt f recv args) := fun Γ σ m A Q p => by
  refine h1.step A p fun u Γ1 m1 v n1 A1 r1 p1 => ?_
  split at p1
  · rename_i hl
    obtain ⟨j, rfl, rfl, hj, ht⟩ := is_lc A1 r1 hl
    refine ⟨ht, h2.step A1 p1 fun us Γ2 m2 vs n2 A2 r2 p2 => ?_⟩
    dsimp only at p2
    cases q : Γ2.mm[j]? with
    | none => rw [q] at p2; exact p2.elim
    | some c =>
      rw [q] at p2
      cases c with
      | p x =>
        dsimp only at p2
        cases hf : (pus us).bind (f x) with
        | none => rw [hf] at p2; exact p2.elim
        | some dy =>
          obtain ⟨d, y⟩ := dy
          rw [hf] at p2
          obtain ⟨xs, hx, hf⟩ := Option.bind_eq_some_iff.mp hf
          obtain ⟨n0, o, ho, ro⟩ := A2.mm j _ q
          have ea := n2.as j hj
          rw [← ea]
          refine (hr x xs d y hf).2 m2.I m2.H _ o vs A2.ih n0 ro ho (RUs.pu r2 hx) Q fun v' o' rv ry => ?_
          obtain ⟨B, nx⟩ := A2.put (o := o') (y := .p y) q nofun nofun ⟨n0, o', upd_same, ry⟩
          exact p2 _ v' nx B (.d rv)
      | n _ => exact p2.elim
      | gone => exact p2.elim
  · exact p1.elim
theorem se_mt0 {r : V → List V → Hp → VK → Prop} {f : D → List D → Option (D × D)} (hr : MtS K r f) (h1 : SE K W to recv) : SE K W (tBM0 K "list" r to) (sMt f recv sNil) := fun Γ σ m A Q p => by
  refine h1.step A p fun u Γ1 m1 v n1 A1 r1 p1 => ?_
  split at p1
  · rename_i hl
    obtain ⟨j, rfl, rfl, hj, ht⟩ := is_lc A1 r1 hl
    refine ⟨ht, ?_⟩
    simp only [sNil, Rs.bind_ok] at p1
    cases q : Γ1.mm[j]? with
    | none => rw [q] at p1; exact p1.elim
    | some c =>
      rw [q] at p1
      cases c with
      | p x =>
        dsimp only at p1
        cases hf : (pus []).bind (f x) with
        | none => rw [hf] at p1; exact p1.elim
        | some dy =>
          obtain ⟨d, y⟩ := dy
          rw [hf] at p1
          obtain ⟨xs, hx, hf⟩ := Option.bind_eq_some_iff.mp hf
          cases hx
          obtain ⟨n0, o, ho, ro⟩ := A1.mm j _ q
          refine (hr x [] d y hf).2 m1.I m1.H _ o [] A1.ih n0 ro ho .nil Q fun v' o' rv ry => ?_
          obtain ⟨B, nx⟩ := A1.put (o := o') (y := .p y) q nofun nofun ⟨n0, o', upd_same, ry⟩
          exact p1 _ v' nx B (.d rv)
      | n _ => exact p1.elim
      | gone => exact p1.elim
  · exact p1.elim
theorem se_app (h1 : SE K W to recv) (h2 : SE K W te e) : SE K W (tBM K "list" rAppend to (tCons te tNil)) (sApp recv e) := fun Γ σ m A Q p => by
  refine h1.step A p fun u Γ1 m1 v n1 A1 r1 p1 => ?_
  split at p1
  · rename_i hl
    obtain ⟨j, rfl, rfl, hj, ht⟩ := is_lc A1 r1 hl
    refine ⟨ht, h2.step A1 p1 fun w Γ2 m2 v2 n2 A2 r2 p2 => ?_⟩
    dsimp only at p2
    show rAppend _ [v2] m2.H Q
    have ea := n2.as j hj
    rw [← ea]
    cases q : Γ2.mm[j]? with
    | none => rw [q] at p2; exact p2.elim
    | some c =>
      rw [q] at p2
      cases c with
      | p x =>
        cases x <;> first | exact p2.elim | skip
        rename_i ds
        dsimp only at p2
        cases hw : pu w with
        | none => rw [hw] at p2; exact p2.elim
        | some d =>
          rw [hw] at p2
          dsimp only at p2
          split at p2
          · rename_i hlen
            obtain ⟨n0, o, ho, ro⟩ := A2.mm j _ q
            cases ro with
            | lst ro =>
              obtain ⟨B, nx⟩ := A2.put (o := .lst (_ ++ [v2])) (y := .p (.lst (ds ++ [d]))) q nofun nofun ⟨n0, _, upd_same, .lst (ro.append (.one (RU.pu r2 hw)))⟩
              exact ⟨_, _, v2, rfl, rfl, ho, by rw [ro.length]; exact hlen, p2 _ _ nx B (.d .non)⟩
          · exact p2.elim
      | n us =>
        dsimp only at p2
        split at p2
        · rename_i hlen
          obtain ⟨n0, vs, ho, ro⟩ := A2.mm j _ q
          obtain ⟨B, nx⟩ := A2.put (o := .lst (vs ++ [v2])) (y := .n (us ++ [w])) q nofun nofun ⟨n0, _, upd_same, ro.append (.cons r2 .nil)⟩
          exact ⟨_, vs, v2, rfl, rfl, ho, by rw [ro.length]; exact hlen, p2 _ _ nx B (.d .non)⟩
        · exact p2.elim
      | gone => exact p2.elim
  · exact p1.elim
def mExtend : D → List D → Option (D × D)
  | .lst ds, [.lst es] => if ds.length + es.length ≤ sizeLine then some (.non, .lst (ds ++ es)) else none
  | _, _ => none
theorem ms_extend : MtS K rExtend mExtend := fun x xs d y hf => by
  unfold mExtend at hf
  split at hf
  · obtain ⟨hl, h⟩ := guard_eq hf
    cases h
    refine ⟨⟨_, rfl⟩, fun I H a o vs e n0 ro ho r Q q => ?_⟩
    obtain ⟨v, rfl, rv⟩ := rpsl1 r
    cases rv with
    | lst h1 h2 =>
      cases ro with
      | lst ro => exact ⟨a, _, _, _, rfl, rfl, ho, e _ _ h1, by rw [ro.length, h2.length]; exact hl, q _ _ .non (.lst (ro.append h2))⟩
  · cases hf
def mPop : D → List D → Option (D × D)
  | .lst ds, [] => (ds[ds.length - 1]?).map fun d => (d, .lst ds.dropLast)
  | _, _ => none
theorem ms_pop : MtS K rPop mPop := fun x xs d y hf => by
  unfold mPop at hf
  split at hf
  · rename_i ds
    obtain ⟨d', hd, h⟩ := Option.map_eq_some_iff.mp hf
    cases h
    refine ⟨⟨_, rfl⟩, fun I H a o vs e n0 ro ho r Q q => ?_⟩
    cases r
    cases ro with
    | lst ro =>
      obtain ⟨v, hv, rv⟩ := ro.get hd
      exact ⟨a, _, v, rfl, rfl, ho, by rw [ro.length]; exact hv, q v _ rv (.lst ro.dropLast)⟩
  · cases hf
def mPopAt : D → List D → Option (D × D)
  | .lst ds, [.int i] => if -(2 ^ 63) ≤ i ∧ i < 2 ^ 63 then (seqIndex? i ds.length).bind fun k => (ds[k]?).map fun d => (d, .lst (ds.eraseIdx k)) else none
  | _, _ => none
theorem ms_popAt : MtS K rPopAt mPopAt := fun x xs d y hf => by
  unfold mPopAt at hf
  split at hf
  · rename_i ds i
    obtain ⟨hl, hf⟩ := guard_eqO hf
    obtain ⟨k, hk, hf⟩ := Option.bind_eq_some_iff.mp hf
    obtain ⟨d', hd, h⟩ := Option.map_eq_some_iff.mp hf
    cases h
    refine ⟨⟨_, rfl⟩, fun I H a o vs e n0 ro ho r Q q => ?_⟩
    obtain ⟨v, rfl, rv⟩ := rpsl1 r
    cases rv
    cases ro with
    | lst ro =>
      obtain ⟨w, hw, rw'⟩ := ro.get hd
      exact ⟨a, _, i, k, w, rfl, rfl, ho, hl.1, hl.2, by rw [ro.length]; exact hk, hw, q w _ rw' (.lst (ro.eraseIdx k))⟩
  · cases hf
def mInsert : D → List D → Option (D × D)
  | .lst ds, [.int i, d] => if ds.length < sizeLine ∧ 0 ≤ i ∧ i < 2 ^ 63 then some (.non, .lst (ds.take i.toNat ++ [d] ++ ds.drop i.toNat)) else none
  | _, _ => none
theorem ms_insert : MtS K (fun x vs H Q => ∃ (l : Addr) (xs : List V) (i : Int) (y : V), x = .ref l ∧ vs = [.int i, y] ∧ H l = some (.lst xs) ∧ xs.length < sizeLine ∧ 0 ≤ i ∧ i < 2 ^ 63 ∧
    Q .non (upd H l (.lst (xs.take i.toNat ++ [y] ++ xs.drop i.toNat)))) mInsert := fun x xs d y hf => by
  unfold mInsert at hf
  split at hf
  · obtain ⟨hl, h⟩ := guard_eq hf
    cases h
    refine ⟨⟨_, rfl⟩, fun I H a o vs e n0 ro ho r Q q => ?_⟩
    obtain ⟨v, w, rfl, rv, rw'⟩ := rpsl2 r
    cases rv
    cases ro with
    | lst ro => exact ⟨a, _, _, w, rfl, rfl, ho, by rw [ro.length]; exact hl.1, hl.2.1, hl.2.2, q _ _ .non (.lst (((ro.take _).append (.one rw')).append (ro.drop _)))⟩
  · cases hf
def mReverse : D → List D → Option (D × D)
  | .lst ds, [] => some (.non, .lst ds.reverse)
  | _, _ => none
theorem ms_reverse : MtS K rReverse mReverse := fun x xs d y hf => by
  unfold mReverse at hf
  split at hf
  · cases hf
    refine ⟨⟨_, rfl⟩, fun I H a o vs e n0 ro ho r Q q => ?_⟩
    cases r
    cases ro with
    | lst ro => exact ⟨a, _, rfl, rfl, ho, q _ _ .non (.lst ro.reverse)⟩
  · cases hf
def mClear : D → List D → Option (D × D)
  | .lst ds, [] => some (.non, .lst [])
  | _, _ => none
theorem ms_clear : MtS K rClear mClear := fun x xs d y hf => by
  unfold mClear at hf
  split at hf
  · cases hf
    refine ⟨⟨_, rfl⟩, fun I H a o vs e n0 ro ho r Q q => ?_⟩
    cases r
    cases ro with
    | lst ro => exact ⟨a, _, rfl, rfl, ho, q _ _ .non (.lst .nil)⟩
  · cases hf
/-! ### x[i] = e of a list of the def's own -/
def sSetL (e o i : Sg → Rs U) : Sg → Rs Fl := fun Γ => (e Γ).bind fun w Γ1 => (o Γ1).bind fun u Γ2 => (i Γ2).bind fun k Γ3 => match u, k with
  | .lc j, .d (.int k) => (match Γ3.mm[j]? with
    | some (.p (.lst ds)) => (match pu w, ixN ds.length k with
      | some d, some n => .ok .nx ⟨Γ3.sl, Γ3.mm.set j (.p (.lst (ds.set n d)))⟩
      | _, _ => .st)
    | some (.n us) => (match ixN us.length k with
      | some n => .ok .nx ⟨Γ3.sl, Γ3.mm.set j (.n (us.set n w))⟩
      | _ => .st)
    | _ => .st)
  | _, _ => .st
variable {ti : TE} {o i : Sg → Rs U}
theorem ss_setL (h1 : SE K W te e) (h2 : SE K W to o) (h3 : SE K W ti i) : SS K W (tAsg te (gSub to ti rSetL)) (sSetL e o i) := fun Γ σ m De A p => by
  refine h1.stepS A p fun w Γ1 m1 v1 n1 A1 r1 p1 => h2.stepS A1 p1 fun u Γ2 m2 v2 n2 A2 r2 p2 => h3.stepS A2 p2 fun k Γ3 m3 v3 n3 A3 r3 p3 => ?_
  cases r2 with
  | d _ => exact p3.elim
  | @lc j hj =>
    cases r3 with
    | lc _ => exact p3.elim
    | @d _ kk r3 =>
      cases kk <;> first | exact p3.elim | skip
      rename_i k
      cases r3
      dsimp only at p3
      have ea := n3.as j hj
      rw [← ea]
      have r1' := RU.mono (n2.trans n3) r1
      cases q : Γ3.mm[j]? with
      | none => rw [q] at p3; exact p3.elim
      | some c =>
        rw [q] at p3
        cases c with
        | p x =>
          cases x <;> first | exact p3.elim | skip
          rename_i ds
          dsimp only at p3
          cases hw : pu w with
          | none => rw [hw] at p3; exact p3.elim
          | some d =>
            cases hk : ixN ds.length k with
            | none => rw [hw, hk] at p3; exact p3.elim
            | some n =>
              rw [hw, hk] at p3
              obtain ⟨n0, ob, ho, ro⟩ := A3.mm j _ q
              cases ro with
              | lst ro =>
                rename_i vs
                obtain ⟨B, nx⟩ := A3.put (o := .lst (vs.set n v1)) (y := .p (.lst (ds.set n d))) q nofun nofun ⟨n0, _, upd_same, .lst (ro.set (RU.pu r1' hw) n)⟩
                exact ⟨_, vs, k, n, rfl, rfl, ho, by rw [ro.length]; exact hk, p3 σ _ nx B⟩
        | n us =>
          dsimp only at p3
          cases hk : ixN us.length k with
          | none => rw [hk] at p3; exact p3.elim
          | some n =>
            rw [hk] at p3
            obtain ⟨n0, vs, ho, ro⟩ := A3.mm j _ q
            obtain ⟨B, nx⟩ := A3.put (o := .lst (vs.set n v1)) (y := .n (us.set n w)) q nofun nofun ⟨n0, _, upd_same, RUs.set r1' n ro⟩
            exact ⟨_, vs, k, n, rfl, rfl, ho, by rw [ro.length]; exact hk, p3 σ _ nx B⟩
        | gone => exact p3.elim
end
/-! ### dicts -/
section
variable {κ : Type} [DecidableEq κ]
def dPutV {α : Type} : List κ → List α → κ → α → List α
  | k :: ks, x :: xs, j, y => (if k = j then y else x) :: dPutV ks xs j y
  | _, _, _, _ => []
def dPutK (ks : List κ) (j : κ) : List κ := if j ∈ ks then ks else ks ++ [j]
def dPut {α : Type} (ks : List κ) (xs : List α) (j : κ) (y : α) : List α := if j ∈ ks then dPutV ks xs j y else xs ++ [y]
theorem dPutV_len {α : Type} {j : κ} {y : α} : ∀ {ks : List κ} {xs : List α}, ks.length = xs.length → (dPutV ks xs j y).length = xs.length
  | [], [], _ => rfl
  | [], _ :: _, h => by cases h
  | _ :: _, [], h => by cases h
  | k :: ks, x :: xs, h => congrArg (· + 1) (dPutV_len (by simpa using h))
theorem dPut_len {α : Type} {j : κ} {y : α} {ks : List κ} {xs : List α} (h : ks.length = xs.length) : (dPutK ks j).length = (dPut ks xs j y).length := by
  unfold dPutK dPut
  split
  · rw [dPutV_len h, h]
  · simp [h]
theorem putK_map {j : κ} {y : V} : ∀ {ks : List κ} {vs : List V}, ks.length = vs.length → ((ks.zip vs).map fun kv => if kv.1 = j then (kv.1, y) else kv) = ks.zip (dPutV ks vs j y)
  | [], _, _ => rfl
  | _ :: _, [], h => by cases h
  | k :: ks, v :: vs, h => by
    rw [List.zip_cons_cons, List.map_cons, putK_map (by simpa using h), dPutV, List.zip_cons_cons]
    split <;> rfl
theorem putK_zip {j : κ} {y : V} {ks : List κ} {vs : List V} (h : ks.length = vs.length) : putK (ks.zip vs) j y = (dPutK ks j).zip (dPut ks vs j y) := by
  unfold putK
  have e : ((ks.zip vs).any fun kv => decide (kv.1 = j)) = decide (j ∈ ks) := by
    have : ∀ {ks : List κ} {vs : List V}, ks.length = vs.length → ((ks.zip vs).any fun kv => decide (kv.1 = j)) = decide (j ∈ ks) := by
      intro ks
      induction ks with
      | nil => intro vs _; simp
      | cons k ks ih =>
        intro vs h
        cases vs with
        | nil => cases h
        | cons v vs =>
          rw [List.zip_cons_cons, List.any_cons, ih (by simpa using h)]
          by_cases z : k = j
          · simp [z]
          · simp [z, Ne.symm z]
    exact this h
  rw [e]
  unfold dPutK dPut
  by_cases hj : j ∈ ks
  · simp only [hj, decide_true, if_true]
    exact putK_map h
  · simp only [hj, decide_false, if_false]
    rw [if_neg Bool.false_ne_true, List.zip_append h]; rfl
theorem rps_dPutV {K : PySem.W.Frag} {I : Hp} {v : V} {d : D} (r : Rp K I v d) {j : κ} : ∀ {ks : List κ} {vs : List V} {ds : List D}, Rps K I vs ds → Rps K I (dPutV ks vs j v) (dPutV ks ds j d)
  | [], _, _, _ => by simp [dPutV]; exact .nil
  | _ :: _, _, _, .nil => .nil
  | k :: ks, _, _, .cons h t => by
    unfold dPutV
    refine .cons ?_ (rps_dPutV r t)
    split
    · exact r
    · exact h
theorem rps_dPut {K : PySem.W.Frag} {I : Hp} {v : V} {d : D} (r : Rp K I v d) {j : κ} {ks : List κ} {vs : List V} {ds : List D} (h : Rps K I vs ds) : Rps K I (dPut ks vs j v) (dPut ks ds j d) := by
  unfold dPut
  split
  · exact rps_dPutV r h
  · exact h.append (.one r)
end
def putD (x y d : D) : Option D := match x with
  | .dic ks ds => if ks.length = ds.length ∧ ks.length < sizeLine then (keyOf y).map fun k => .dic (dPutK ks k) (dPut ks ds k d) else none
  | .dit ks ds => if ks.length = ds.length ∧ ks.length < sizeLine then (tkeyOf y).map fun k => .dit (dPutK ks k) (dPut ks ds k d) else none
  | _ => none
/-- o[i] = e of a dict of the def's own -/
def sSetD (e o i : Sg → Rs U) : Sg → Rs Fl := fun Γ => (e Γ).bind fun w Γ1 => (o Γ1).bind fun u Γ2 => (i Γ2).bind fun k Γ3 => match u, k, w with
  | .lc j, .d k, .d w => (match Γ3.mm[j]? with
    | some (.p x) => (match putD x k w with
      | some y => .ok .nx ⟨Γ3.sl, Γ3.mm.set j (.p y)⟩
      | none => .st)
    | _ => .st)
  | _, _, _ => .st
section
variable {K : PySem.W.Frag} {W : WX} {to te ti : TE} {e o i : Sg → Rs U}
theorem zip_len {κ : Type} {ks : List κ} {vs : List V} (h : ks.length = vs.length) : (ks.zip vs).length = ks.length := by rw [List.length_zip, ← h, Nat.min_self]
theorem ss_setD (h1 : SE K W te e) (h2 : SE K W to o) (h3 : SE K W ti i) : SS K W (sDPut to ti te) (sSetD e o i) := fun Γ σ m De A p => by
  refine h1.stepS A p fun w Γ1 m1 v1 n1 A1 r1 p1 => h2.stepS A1 p1 fun u Γ2 m2 v2 n2 A2 r2 p2 => h3.stepS A2 p2 fun k Γ3 m3 v3 n3 A3 r3 p3 => ?_
  cases r2 with
  | d _ => exact p3.elim
  | @lc j hj =>
    have r1' := RU.mono (n2.trans n3) r1
    cases r3 with
    | lc _ => exact p3.elim
    | @d _ kk r3 =>
      cases r1' with
      | lc _ => exact p3.elim
      | @d _ ww r1' =>
        dsimp only at p3
        have ea := n3.as j hj
        cases q : Γ3.mm[j]? with
        | none => rw [q] at p3; exact p3.elim
        | some c =>
          rw [q] at p3
          cases c with
          | p x =>
            dsimp only at p3
            cases hp : putD x kk ww with
            | none => rw [hp] at p3; exact p3.elim
            | some y =>
              rw [hp] at p3
              obtain ⟨n0, ob, ho, ro⟩ := A3.mm j _ q
              cases x <;> first | (cases hp; done) | skip
              · rename_i ks ds
                obtain ⟨hl, hp⟩ := guard_eqO hp
                obtain ⟨k, hk, rfl⟩ := Option.map_eq_some_iff.mp hp
                cases ro with
                | dic l ro =>
                  rename_i vs
                  obtain ⟨B, nx⟩ := A3.put (o := .dK ((dPutK ks k).zip (dPut ks vs k v1))) (y := .p (.dic (dPutK ks k) (dPut ks ds k ww))) q nofun nofun ⟨n0, _, upd_same, .dic (dPut_len l) (rps_dPut r1' ro)⟩
                  refine ⟨_, _, rfl, .inl ⟨_, k, by rw [← ea]; exact ho, key_v (H := m3.H) (.p r3) hk, by rw [zip_len l]; exact hl.2, rfl⟩, ?_⟩
                  rw [putK_zip l, ← ea]
                  exact p3 σ _ nx B
              · rename_i ks ds
                obtain ⟨hl, hp⟩ := guard_eqO hp
                obtain ⟨k, hk, rfl⟩ := Option.map_eq_some_iff.mp hp
                cases ro with
                | dit l ro =>
                  rename_i vs
                  obtain ⟨b, rfl, hb⟩ := tkey_v A3.ih (.p r3) hk
                  obtain ⟨B, nx⟩ := A3.put (o := .dT ((dPutK ks k).zip (dPut ks vs k v1))) (y := .p (.dit (dPutK ks k) (dPut ks ds k ww))) q nofun nofun ⟨n0, _, upd_same, .dit (dPut_len l) (rps_dPut r1' ro)⟩
                  refine ⟨_, _, rfl, .inr ⟨_, k, b, by rw [← ea]; exact ho, rfl, hb, by rw [zip_len l]; exact hl.2, rfl⟩, ?_⟩
                  rw [putK_zip l, ← ea]
                  exact p3 σ _ nx B
          | n _ => exact p3.elim
          | gone => exact p3.elim
/-! {} -/
def sDK : Sg → Rs U := ofO (some (.dic [] []))
def sDKA : Sg → Rs U := ofA (some (.dic [] []))
def sDTA : Sg → Rs U := ofA (some (.dit [] []))
theorem se_dK : SE K W tDNewK sDK := fun Γ σ m A Q p => by
  obtain ⟨d, hd, q⟩ := p.o A
  cases hd
  exact fun p hp => q _ _ _ (Gr.new A.ih hp) (.dic (ks := []) (xs := []) upd_same rfl .nil)
theorem se_dKA : SE K W tDNewK sDKA := fun Γ σ m A Q p => by
  obtain ⟨d, hd, q⟩ := p.a A
  cases hd
  exact fun p hp => q p _ hp (.dic (ks := []) (vs := []) rfl .nil)
theorem se_dTA : SE K W tDNewT sDTA := fun Γ σ m A Q p => by
  obtain ⟨d, hd, q⟩ := p.a A
  cases hd
  exact fun p hp => q p _ hp (.dit (ks := []) (vs := []) rfl .nil)
/-! {k: v, ..} -/
def rP (K : PySem.W.Frag) : Rel (List Key × List D) (List (V × V)) := fun m _ ps kd => ∃ vs : List V, kd.1.length = vs.length ∧ Rps K m.I vs kd.2 ∧ ps = (kd.1.zip vs).map fun kv => (kV kv.1, kv.2)
abbrev SPs (K : PySem.W.Frag) (W : WX) (trs : List (TE × TE)) (s : Sg → Rs (List Key × List D)) : Prop := J K W (rP K) (tPairs trs) s
def pN : Sg → Rs (List Key × List D) := fun Γ => .ok ([], []) Γ
def pC (k v : Sg → Rs U) (r : Sg → Rs (List Key × List D)) : Sg → Rs (List Key × List D) := fun Γ => (k Γ).bind fun x Γ1 => (v Γ1).bind fun y Γ2 => match (pu x).bind keyOf, pu y with
  | some key, some d => (r Γ2).bind fun kd Γ3 => .ok (key :: kd.1, d :: kd.2) Γ3
  | _, _ => .st
theorem sp_nil : SPs K W [] pN := fun Γ σ m A Q p => p m [] .refl A ⟨[], rfl, .nil, rfl⟩
theorem sp_cons {tk tv : TE} {trs : List (TE × TE)} {k v : Sg → Rs U} {r : Sg → Rs (List Key × List D)} (h1 : SE K W tk k) (h2 : SE K W tv v) (h3 : SPs K W trs r) : SPs K W ((tk, tv) :: trs) (pC k v r) := fun Γ σ m A Q p => by
  refine h1.step A p fun x Γ1 m1 v1 n1 A1 r1 p1 => h2.step A1 p1 fun y Γ2 m2 v2 n2 A2 r2 p2 => ?_
  cases hk : (pu x).bind keyOf with
  | none => rw [hk] at p2; exact p2.elim
  | some key =>
    cases hy : pu y with
    | none => rw [hk, hy] at p2; exact p2.elim
    | some d =>
      rw [hk, hy] at p2
      obtain ⟨dk, h4, h5⟩ := Option.bind_eq_some_iff.mp hk
      refine h3.step A2 p2 fun kd Γ3 m3 ps n3 A3 r3 p3 => ?_
      obtain ⟨vs, e1, e2, rfl⟩ := r3
      refine p3 m3 _ .refl A3 ⟨v2 :: vs, by simp [e1], .cons ((RU.pu r2 hy).mono n3.ex) e2, ?_⟩
      have := key_v (H := m1.H) (.p (RU.pu r1 h4)) h5
      rw [this]; rfl
def sDisp (r : Sg → Rs (List Key × List D)) : Sg → Rs U := fun Γ => (r Γ).bind fun kd Γ1 => if kd.1.Nodup ∧ kd.1.length ≤ 15 then .ok (.d (.dic kd.1 kd.2)) Γ1 else .st
/-- a hidden new object becomes data -/
theorem At.hid {Γ : Sg} {σ : L2.St} {m : Wd} {a : Addr} {o : HO} {d : D} (A : At K σ m Γ) (fr : ∀ j, live Γ.mm j → m.as j ≠ a) (n0 : m.I a = none) (r : MRp K m.I o d) {m0 : Wd} {mm0 : List Cell} (nx : Nx m0 mm0 m Γ.mm) (h0 : m0.H a = none) :
    ∃ m', m'.H = upd m.H a o ∧ At K σ m' Γ ∧ Rp K m'.I (.ref a) d ∧ Nx m0 mm0 m' Γ.mm := by
  have e1 : Ex m.I (upd m.I a o) := Ex.new n0
  refine ⟨⟨upd m.I a o, upd m.H a o, m.as⟩, rfl, ⟨fun x u h => ?_, fun i u h => ?_, fun j c hc => ?_, A.ne, A.len⟩, (r.mono e1).rp upd_same, ⟨nx.ex.trans e1, fun x u h hn => ?_, fun x h hn => ?_, fun x h => ?_, nx.as, nx.le, nx.nw⟩⟩
  · show upd m.H a o x = some u
    by_cases z : x = a
    · subst z
      have h : upd m.I x o x = some u := h
      rw [upd_same] at h ⊢; exact h
    · have h : upd m.I a o x = some u := h
      rw [upd_ne z] at h ⊢; exact A.ih x u h
  · obtain ⟨v, q1, q2⟩ := A.sl i u h
    exact ⟨v, q1, q2.up e1 (fun _ _ => rfl) (Nat.le_refl _)⟩
  · have q := A.mm j c hc
    by_cases hq : c = .gone
    · subst hq; trivial
    · have ne := fr j ⟨c, hc, hq⟩
      cases c with
      | p d => obtain ⟨a1, o1, b1, c1⟩ := q; exact ⟨by show upd m.I a _ _ = _; rw [upd_ne ne]; exact a1, o1, by show upd m.H a _ _ = _; rw [upd_ne ne]; exact b1, c1.mono e1⟩
      | n us => obtain ⟨a1, o1, b1, c1⟩ := q; exact ⟨by show upd m.I a _ _ = _; rw [upd_ne ne]; exact a1, o1, by show upd m.H a _ _ = _; rw [upd_ne ne]; exact b1, c1.up e1 (fun _ _ => rfl) (Nat.le_refl _)⟩
      | gone => trivial
  · show upd m.H a o x = some u
    rw [upd_ne (ne_of_none h h0)]; exact nx.kp x u h hn
  · show upd m.I a o x = m0.I x
    have z : x ≠ a := fun z => by rw [z] at h; exact h h0
    rw [upd_ne z]; exact nx.fr x h hn
  · show upd m.H a o x ≠ none
    by_cases z : x = a
    · rw [z, upd_same]; exact nofun
    · rw [upd_ne z]; exact nx.th x h
theorem se_disp {trs : List (TE × TE)} {r : Sg → Rs (List Key × List D)} (h : SPs K W trs r) : SE K W (tDisp trs) (sDisp r) := fun Γ σ m A Q p => fun a ha => by
  have g := Gr.junk (m := []) (o := HO.dK []) A.ih ha
  have A0 := A.g g
  have nx0 : Nx m Γ.mm ⟨m.I, upd m.H a (.dK []), m.as⟩ Γ.mm := .g g
  refine h Γ σ ⟨m.I, upd m.H a (.dK []), m.as⟩ A0 _ ?_
  unfold sDisp at p
  cases hr : r Γ with
  | st => rw [hr] at p; exact p.elim
  | ex x Γ1 =>
    rw [hr] at p
    exact fun m' C dx nx A' hc hd => p m' C dx (nx0.trans nx) A' hc (hd.back nx0.th)
  | ok kd Γ1 =>
    rw [hr] at p
    simp only [Rs.bind_ok] at p
    intro m1 ps n1 A1 r1
    obtain ⟨vs, e1, e2, rfl⟩ := r1
    split at p
    · rename_i hg
      have fr0 : ∀ j, live Γ.mm j → m.as j ≠ a := A.fresh ha
      have hp1 : m1.H a = some (.dK []) := n1.kp a _ upd_same fr0
      have n0 : m1.I a = none := (n1.fr a (by show upd m.H a _ a ≠ none; rw [upd_same]; exact nofun) fr0).trans (A.ih.free ha)
      have fr1 := n1.apart (a := a) (by show upd m.H a _ a ≠ none; rw [upd_same]; exact nofun) fr0
      refine ⟨hp1, kd.1.zip vs, rfl, by rw [zip_len e1]; exact hg.2, ?_⟩
      have em : mergeK [] (kd.1.zip vs) = kd.1.zip vs := by
        have := G.merge_nodup (kd.1.zip vs) [] (by rw [List.nil_append, List.map_fst_zip (by omega)]; exact hg.1)
        simpa using this
      rw [em]
      obtain ⟨m2, hH, B, rB, nB⟩ := A1.hid (o := .dK (kd.1.zip vs)) (d := .dic kd.1 kd.2) fr1 n0 (.dic e1 e2) (nx0.trans n1) ha
      rw [← hH]
      exact p m2 (.ref a) nB B (.d rB)
    · exact p.elim
end
end S

namespace S
open PySem PySem.Spec L2
open G (Ex Gr ex_l ex_t ExnAt exx exx_ok)
/-! ### what a def gives -/
inductive Rr where
  | st | ok (d : D) | ex (x : Xn)
  deriving Inhabited
inductive Rb where
  | st | ok (d : D) (mm : List Cell) | ex (x : Xn) (mm : List Cell)
  deriving Inhabited
def slotsP (n : Nat) (ds : List D) : List (Option U) := ds.map (fun d => some (.d d)) ++ List.replicate (n - ds.length) none
def slotsU (n : Nat) (us : List U) : List (Option U) := us.map some ++ List.replicate (n - us.length) none
/-- a def of data: nothing that is handed in is changed -/
def runP (n : Nat) (body : Sg → Rs Fl) (ds : List D) : Rr := match body ⟨slotsP n ds, []⟩ with
  | .st => .st
  | .ok .nx _ => .ok .non
  | .ok (.rt d) _ => .ok d
  | .ok (.rf _ d) _ => .ok d
  | .ok _ _ => .st
  | .ex x _ => .ex x
/-- such a def whose result is a new object that the asker may change -/
def runF (n : Nat) (body : Sg → Rs Fl) (ds : List D) : Rr := match body ⟨slotsP n ds, []⟩ with
  | .ok (.rf _ d) _ => .ok d
  | .ex x _ => .ex x
  | _ => .st
def flatC : Cell → Bool
  | .n _ => false
  | _ => true
def cutM (n : Nat) (mm : List Cell) : Option (List Cell) := if (mm.take n).all flatC then some (mm.take n) else none
/-- a def to which cells are lent -/
def runB (n : Nat) (body : Sg → Rs Fl) (us : List U) (mm : List Cell) : Rb := match body ⟨slotsU n us, mm⟩ with
  | .st => .st
  | .ok .nx Γ => (match cutM mm.length Γ.mm with | some mm' => .ok .non mm' | none => .st)
  | .ok (.rt d) Γ => (match cutM mm.length Γ.mm with | some mm' => .ok d mm' | none => .st)
  | .ok _ _ => .st
  | .ex x Γ => (match cutM mm.length Γ.mm with | some mm' => .ex x mm' | none => .st)
/-! ### promises -/
def spP (K : PySem.W.Frag) (F : List D → Rr) : Sp := fun vs H Q E => ∃ (I : Hp) (ds : List D), Ex I H ∧ Rps K I vs ds ∧ match F ds with
  | .st => False
  | .ok d => ∀ I' H' v, Gr [] I H I' H' → Rp K I' v d → Q v H'
  | .ex x => ∀ I' H' C dx, Gr [] I H I' H' → clsA K x.C = some C → XdAt K I' H' H dx x.ns x.ds → E (.ref C) (some dx) H'
def spF (K : PySem.W.Frag) (F : List D → Rr) : Sp := fun vs H Q E => ∃ (I : Hp) (ds : List D), Ex I H ∧ Rps K I vs ds ∧ match F ds with
  | .st => False
  | .ok d => ∀ I' H' a o, Gr [] I H I' H' → I' a = none → H a = none → H' a = some o → MRp K I' o d → Q (.ref a) H'
  | .ex x => ∀ I' H' C dx, Gr [] I H I' H' → clsA K x.C = some C → XdAt K I' H' H dx x.ns x.ds → E (.ref C) (some dx) H'
/-- the cells lie well -/
structure Cs (K : PySem.W.Frag) (m : Wd) (mm : List Cell) : Prop where
  ih : Ex m.I m.H
  ok : ∀ (j : Nat) (c : Cell), mm[j]? = some c → CellOk K m.I m.H m.as mm.length (m.as j) c
  ne : ∀ j k, live mm j → live mm k → j ≠ k → m.as j ≠ m.as k
def spB (K : PySem.W.Frag) (F : List U → List Cell → Rb) : Sp := fun vs H Q E => ∃ (m : Wd) (us : List U) (mm : List Cell), m.H = H ∧ Cs K m mm ∧ RUs K m.I m.as mm.length vs us ∧ match F us mm with
  | .st => False
  | .ok d mm' => ∀ m' v, Nx m mm m' mm' → Cs K m' mm' → Rp K m'.I v d → Q v m'.H
  | .ex x mm' => ∀ m' C dx, Nx m mm m' mm' → Cs K m' mm' → clsA K x.C = some C → XdAt K m'.I m'.H m.H dx x.ns x.ds → E (.ref C) (some dx) m'.H
section
variable {K : PySem.W.Frag}
theorem Nx.gr {m m' : Wd} {mm' : List Cell} (x : Nx m [] m' mm') (e : Ex m'.I m'.H) : Gr [] m.I m.H m'.I m'.H :=
  ⟨x.ex, e, fun a o _ h => x.kp a o h (fun j hj => absurd (live_lt hj) (by simp)), x.th, fun a h => x.fr a h (fun j hj => absurd (live_lt hj) (by simp))⟩
theorem at_start {I H : Hp} {N : List Str} {vs : List V} {ds : List D} (e : Ex I H) (r : Rps K I vs ds) : At K (start N vs) ⟨I, H, fun _ => 0⟩ ⟨slotsP N.length ds, []⟩ := by
  refine ⟨e, fun i u h => ?_, fun j c h => by simp at h, fun j k hj => absurd (live_lt hj) (by simp), ?_⟩
  · unfold slotsP at h
    rw [List.getElem?_append] at h
    split at h
    · rw [List.getElem?_map] at h
      cases q : ds[i]? with
      | none => rw [q] at h; cases h
      | some x =>
        rw [q] at h
        cases h
        obtain ⟨v, hv, rv⟩ := r.get q
        refine ⟨v, ?_, .d rv⟩
        unfold L2.start
        rw [List.getElem?_append_left (by rw [List.length_map]; exact (List.getElem?_eq_some_iff.mp hv).1), List.getElem?_map, hv]
        rfl
    · obtain ⟨a, b⟩ := List.getElem?_eq_some_iff.mp h
      rw [List.getElem_replicate] at b
      cases b
  · unfold L2.start slotsP
    simp [r.length]
theorem At.cs {σ : L2.St} {m : Wd} {Γ : Sg} (A : At K σ m Γ) : Cs K m Γ.mm := ⟨A.ih, A.mm, A.ne⟩
theorem Cs.at_ {σ : L2.St} {m m' : Wd} {Γ : Sg} {mm' : List Cell} (A : At K σ m Γ) (c : Cs K m' mm') (x : Nx m Γ.mm m' mm') : At K σ m' ⟨Γ.sl, mm'⟩ :=
  ⟨c.ih, fun i u h => by obtain ⟨v, h1, h2⟩ := A.sl i u h; exact ⟨v, h1, h2.mono x⟩, c.ok, c.ne, A.len⟩
theorem at_startU {m : Wd} {N : List Str} {vs : List V} {us : List U} {mm : List Cell} (c : Cs K m mm) (r : RUs K m.I m.as mm.length vs us) : At K (start N vs) m ⟨slotsU N.length us, mm⟩ := by
  refine ⟨c.ih, fun i u h => ?_, c.ok, c.ne, ?_⟩
  · unfold slotsU at h
    rw [List.getElem?_append] at h
    split at h
    · rw [List.getElem?_map] at h
      cases q : us[i]? with
      | none => rw [q] at h; cases h
      | some x =>
        rw [q] at h
        cases h
        obtain ⟨v, hv, rv⟩ := r.get q
        refine ⟨v, ?_, rv⟩
        unfold L2.start
        rw [List.getElem?_append_left (by rw [List.length_map]; exact (List.getElem?_eq_some_iff.mp hv).1), List.getElem?_map, hv]
        rfl
    · obtain ⟨a, b⟩ := List.getElem?_eq_some_iff.mp h
      rw [List.getElem_replicate] at b
      cases b
  · unfold L2.start slotsU
    simp [r.length]
theorem take_at {n j : Nat} {mm : List Cell} {c : Cell} (h : (mm.take n)[j]? = some c) : mm[j]? = some c := by
  rw [List.getElem?_take] at h
  split at h
  · exact h
  · cases h
theorem cut_ok {m m' : Wd} {mm mm' r : List Cell} (h : cutM mm.length mm' = some r) (x : Nx m mm m' mm') (c : Cs K m' mm') : Nx m mm m' r ∧ Cs K m' r := by
  unfold cutM at h
  obtain ⟨hf, rfl⟩ := guard_eq h
  have lv : ∀ j, live (mm'.take mm.length) j → live mm' j := fun j ⟨c, h1, h2⟩ => ⟨c, take_at h1, h2⟩
  refine ⟨⟨x.ex, x.kp, x.fr, x.th, x.as, by rw [List.length_take]; have := x.le; omega, fun j hj => x.nw j (lv j hj)⟩, ⟨c.ih, fun j y hy => ?_, fun j k hj hk ne => c.ne j k (lv j hj) (lv k hk) ne⟩⟩
  have q := c.ok j y (take_at hy)
  have hm := List.all_eq_true.mp hf y (List.mem_of_getElem? hy)
  cases y with
  | p d => exact q
  | n us => cases hm
  | gone => trivial
end
/-! ### such defs of the text -/
structure Cal (P : Program) (w : World) (K : PySem.W.Frag) (mg : Str → Option Value) (base : Heap) (x : Str) (k : Nat) (ps : List Str) (sp : Sp) : Prop where
  ex : ∃ f fd, FnOk P w K mg base (L2.CX P w) k f fd ps sp ∧ mg x = some (.ref f) ∧ PySem.W.keepIn K (.ref f) = true ∧ Binds K fd ps [] ∧ ∃ (oc : Value) (od : Option Addr) (osl : Array (Option Value)), K.lookup f = some ⟨oc, od, .func fd, osl⟩
section
variable {P : Program} {w : World} {K : PySem.W.Frag} {mg : Str → Option Value} {base : Heap} {x qual : Str} {st : Stmt} {f : Addr} {fd : FuncData} {N ps : List Str} {k : Nat}
/-- what the body's walk must show -/
def BodyOk (P : Program) (w : World) (K : PySem.W.Frag) (mg : Str → Option Value) (base : Heap) (N : List Str) (qual : Str) (st : Stmt) (f : Addr) (k : Nat) (body : Sg → Rs Fl) : Prop :=
  ∀ (cdv : Value) (A : Around) (outer : List Env) (s : Shared) (H : Hp) (E : XK), Room k (A.deeper (PyProof.Rows.envOfC qual (defScope st) s.heap.objs.size f cdv)) →
      ∃ t, PSs (cxOf (L2.CX P w) P w K mg base N qual (defScope st) f cdv A outer s H E) (defBody st) t ∧ SS K (fun cls d _ H => E cls d H) t body
theorem ok_P {n : Nat} {F : List D → Rr} {body : Sg → Rs Fl} (D1 : G.DefAt K mg x qual st ps) (S : FnScope N ps (defScope st)) (hN : N.length = n) (hF : ∀ ds, F ds ≠ .st → F ds = runP n body ds ∧ ds.length = ps.length) (hb : ∀ f, BodyOk P w K mg base N qual st f k body) : Cal P w K mg base x (k + 1) ps (spP K F) := by
  obtain ⟨f, fd, F1, hm, b⟩ := D1.ex
  obtain ⟨oc, od, kV, doc, pm, an, cdv, ct, osl, rfl, lk, _⟩ := id F1.ex
  refine ⟨f, _, F1.okX S (fun vs H Q E h => ?_) (fun cdv A outer s H vs Q E hr h => ?_), hm, F1.kp, b, oc, od, osl, lk⟩
  · obtain ⟨I, ds, _, r, h⟩ := h
    rw [r.length]
    refine (hF ds fun z => ?_).2
    rw [z] at h; exact h
  · obtain ⟨I, ds, e, r, h⟩ := h
    obtain ⟨t, ht, hs⟩ := hb f cdv A outer s H E hr
    have hne : F ds ≠ .st := fun z => by rw [z] at h; exact h
    rw [(hF ds hne).1] at h
    refine ⟨t, ht, hs ⟨slotsP N.length ds, []⟩ _ ⟨I, H, fun _ => 0⟩ _ (at_start e r) ?_⟩
    rw [hN]
    unfold runP at h
    cases hr : body ⟨slotsP n ds, []⟩ with
    | st => rw [hr] at h; exact h
    | ex x Γ => rw [hr] at h; exact fun σ' m' C dx nx A' hc hd => h m'.I m'.H C dx (nx.gr A'.ih) hc hd
    | ok fl Γ =>
      rw [hr] at h
      cases fl with
      | nx => exact fun σ' m' nx A' => h m'.I m'.H .non (nx.gr A'.ih) .non
      | bk => exact h.elim
      | ct => exact h.elim
      | rt d => exact fun σ' m' v nx A' rv => h m'.I m'.H v (nx.gr A'.ih) rv
      | rf j d =>
        intro σ' m' o nx A' hj n0 ho rv
        have h0 : H (m'.as j) = none := (nx.nw j ⟨_, hj, nofun⟩).resolve_left fun z => absurd (live_lt z) (by simp)
        have g := (nx.gr A'.ih).frz n0 h0 ho
        exact h _ m'.H _ g ((rv.mono (Ex.new n0)).rp upd_same)
theorem ok_F {n : Nat} {F : List D → Rr} {body : Sg → Rs Fl} (D1 : G.DefAt K mg x qual st ps) (S : FnScope N ps (defScope st)) (hN : N.length = n) (hF : ∀ ds, F ds ≠ .st → F ds = runF n body ds ∧ ds.length = ps.length) (hb : ∀ f, BodyOk P w K mg base N qual st f k body) : Cal P w K mg base x (k + 1) ps (spF K F) := by
  obtain ⟨f, fd, F1, hm, b⟩ := D1.ex
  obtain ⟨oc, od, kV, doc, pm, an, cdv, ct, osl, rfl, lk, _⟩ := id F1.ex
  refine ⟨f, _, F1.okX S (fun vs H Q E h => ?_) (fun cdv A outer s H vs Q E hr h => ?_), hm, F1.kp, b, oc, od, osl, lk⟩
  · obtain ⟨I, ds, _, r, h⟩ := h
    rw [r.length]
    refine (hF ds fun z => ?_).2
    rw [z] at h; exact h
  · obtain ⟨I, ds, e, r, h⟩ := h
    obtain ⟨t, ht, hs⟩ := hb f cdv A outer s H E hr
    have hne : F ds ≠ .st := fun z => by rw [z] at h; exact h
    rw [(hF ds hne).1] at h
    refine ⟨t, ht, hs ⟨slotsP N.length ds, []⟩ _ ⟨I, H, fun _ => 0⟩ _ (at_start e r) ?_⟩
    rw [hN]
    unfold runF at h
    cases hr : body ⟨slotsP n ds, []⟩ with
    | st => rw [hr] at h; exact h
    | ex x Γ => rw [hr] at h; exact fun σ' m' C dx nx A' hc hd => h m'.I m'.H C dx (nx.gr A'.ih) hc hd
    | ok fl Γ =>
      rw [hr] at h
      cases fl with
      | rf j d =>
        intro σ' m' o nx A' hj n0 ho rv
        have h0 : H (m'.as j) = none := (nx.nw j ⟨_, hj, nofun⟩).resolve_left fun z => absurd (live_lt z) (by simp)
        exact h m'.I m'.H _ o (nx.gr A'.ih) n0 h0 ho rv
      | _ => exact h.elim
theorem ok_B {n : Nat} {F : List U → List Cell → Rb} {body : Sg → Rs Fl} (D1 : G.DefAt K mg x qual st ps) (S : FnScope N ps (defScope st)) (hN : N.length = n) (hF : ∀ us mm, F us mm ≠ .st → F us mm = runB n body us mm ∧ us.length = ps.length) (hb : ∀ f, BodyOk P w K mg base N qual st f k body) : Cal P w K mg base x (k + 1) ps (spB K F) := by
  obtain ⟨f, fd, F1, hm, b⟩ := D1.ex
  obtain ⟨oc, od, kV, doc, pm, an, cdv, ct, osl, rfl, lk, _⟩ := id F1.ex
  refine ⟨f, _, F1.okX S (fun vs H Q E h => ?_) (fun cdv A outer s H vs Q E hr h => ?_), hm, F1.kp, b, oc, od, osl, lk⟩
  · obtain ⟨m, us, mm, _, _, r, h⟩ := h
    rw [r.length]
    refine (hF us mm fun z => ?_).2
    rw [z] at h; exact h
  · obtain ⟨m, us, mm, rfl, c, r, h⟩ := h
    obtain ⟨t, ht, hs⟩ := hb f cdv A outer s m.H E hr
    have hne : F us mm ≠ .st := fun z => by rw [z] at h; exact h
    rw [(hF us mm hne).1] at h
    refine ⟨t, ht, hs ⟨slotsU N.length us, mm⟩ _ m _ (at_startU c r) ?_⟩
    rw [hN]
    unfold runB at h
    cases hr : body ⟨slotsU n us, mm⟩ with
    | st => rw [hr] at h; exact h
    | ex x Γ =>
      rw [hr] at h
      dsimp only at h
      cases hc : cutM mm.length Γ.mm with
      | none => rw [hc] at h; exact h.elim
      | some mm' =>
        rw [hc] at h
        intro σ' m' C dx nx A' hcl hd
        obtain ⟨n2, c2⟩ := cut_ok hc nx A'.cs
        exact h m' C dx n2 c2 hcl hd
    | ok fl Γ =>
      rw [hr] at h
      cases fl with
      | nx =>
        dsimp only at h
        cases hc : cutM mm.length Γ.mm with
        | none => rw [hc] at h; exact h.elim
        | some mm' =>
          rw [hc] at h
          intro σ' m' nx A'
          obtain ⟨n2, c2⟩ := cut_ok hc nx A'.cs
          exact h m' .non n2 c2 .non
      | bk => exact h.elim
      | ct => exact h.elim
      | rt d =>
        dsimp only at h
        cases hc : cutM mm.length Γ.mm with
        | none => rw [hc] at h; exact h.elim
        | some mm' =>
          rw [hc] at h
          intro σ' m' v nx A' rv
          obtain ⟨n2, c2⟩ := cut_ok hc nx A'.cs
          exact h m' v n2 c2 rv
      | rf j d => exact h.elim
end
/-! ### calls -/
section
variable {X : Cx} {P : Program} {w : World} (K : PySem.W.Frag) {mg : Str → Option Value} {base : Heap} {x : Str} {j k : Nat} {ps : List Str} {sp : Sp} {p pos : Pos} {e : Expr} {es : List Expr} {t : TA} {W : WX}
theorem k_cal (c : Cal P w K mg base x k ps sp) (hr : Room j X.A) (hk : k ≤ j) (tk : Takes X W) (hg : Gl X x) (ha : PA X (e :: es) t) (hdb : (x == ("__debug__" : Str)) = false := by decide)
    (he : starEach (e :: es) X.env = (false, eval e X.env) :: starEach es X.env := by rfl) (hpl : (backTo pos (starEach es X.env)).any (·.1) = false := by rfl)
    (hX : X.prog = P ∧ X.w = w ∧ X.K = K ∧ X.mg = mg ∧ X.base = base := by exact ⟨rfl, rfl, rfl, rfl, rfl⟩) :
    PE X (.Call (.Name x p) (e :: es) [] pos) (tCallS sp (WE W) t) := by
  obtain ⟨rfl, rfl, rfl, rfl, rfl⟩ := hX
  obtain ⟨f, fd, F, hm, kp, b, _⟩ := c.ex
  exact pe_callS F (hr.mono hk) hg hm kp b (passAt tk) ha hdb he hpl
open PyProof.Rows in
theorem k_cal0 (c : Cal P w K mg base x k ps sp) (hr : Room j X.A) (hk : k ≤ j) (tk : Takes X W) (hg : Gl X x) (hdb : (x == ("__debug__" : Str)) = false := by decide)
    (hX : X.prog = P ∧ X.w = w ∧ X.K = K ∧ X.mg = mg ∧ X.base = base := by exact ⟨rfl, rfl, rfl, rfl, rfl⟩) :
    PE X (.Call (.Name x p) [] [] pos) (tCallS sp (WE W) tNil) := by
  obtain ⟨rfl, rfl, rfl, rfl, rfl⟩ := hX
  obtain ⟨f, fd, F, hm, kp, b, _⟩ := c.ex
  refine ⟨fun pins s σ H Q I h => ?_⟩
  refine wpAny_Call_Name_kw (ld_glob I hg hm ?_ hdb)
  exact PySem.W.callWith_K0 I.kIn kp (run_fnS (us := []) F (hr.mono hk) b (passAt tk σ) I .nil h)
end
def ofR (r : Rr) (Γ : Sg) : Rs U := match r with
  | .st => .st
  | .ok d => .ok (.d d) Γ
  | .ex x => .ex x Γ
def ofRA (r : Rr) (Γ : Sg) : Rs U := match r with
  | .st => .st
  | .ok d => .ok (.lc Γ.mm.length) ⟨Γ.sl, Γ.mm ++ [.p d]⟩
  | .ex x => .ex x Γ
@[simp] theorem ofR_ok (d : D) (Γ : Sg) : ofR (.ok d) Γ = .ok (.d d) Γ := rfl
@[simp] theorem ofR_ex (x : Xn) (Γ : Sg) : ofR (.ex x) Γ = .ex x Γ := rfl
@[simp] theorem ofRA_ok (d : D) (Γ : Sg) : ofRA (.ok d) Γ = .ok (.lc Γ.mm.length) ⟨Γ.sl, Γ.mm ++ [.p d]⟩ := rfl
/-- f(args), of data -/
def sCall (F : List D → Rr) (a : Sg → Rs (List U)) : Sg → Rs U := fun Γ => (a Γ).bind fun us Γ1 => match pus us with
  | some ds => ofR (F ds) Γ1
  | none => .st
/-- the same, the new result may be changed -/
def sCallA (F : List D → Rr) (a : Sg → Rs (List U)) : Sg → Rs U := fun Γ => (a Γ).bind fun us Γ1 => match pus us with
  | some ds => ofRA (F ds) Γ1
  | none => .st
/-- f(args), cells are lent -/
def sCallB (F : List U → List Cell → Rb) (a : Sg → Rs (List U)) : Sg → Rs U := fun Γ => (a Γ).bind fun us Γ1 => match F us Γ1.mm with
  | .st => .st
  | .ok d mm => .ok (.d d) ⟨Γ1.sl, mm⟩
  | .ex x mm => .ex x ⟨Γ1.sl, mm⟩
section
variable {K : PySem.W.Frag} {W : WX} {ta : TA} {a : Sg → Rs (List U)}
theorem go_P {F : List D → Rr} {Γ : Sg} {σ : L2.St} {m : Wd} {vs : List V} {ds : List D} {Q : VK} (A : At K σ m Γ) (r : Rps K m.I vs ds) (p : Post K W σ m Γ.mm (rV K) (ofR (F ds) Γ) Q) : spP K F vs m.H Q (WE W σ) := by
  refine ⟨m.I, ds, A.ih, r, ?_⟩
  cases h : F ds with
  | st => rw [h] at p; exact p
  | ok d => rw [h] at p; exact fun I' H' v g rv => p ⟨I', H', m.as⟩ v (.g g) (A.g g) (.d rv)
  | ex x => rw [h] at p; exact fun I' H' C dx g hc hd => p ⟨I', H', m.as⟩ C dx (.g g) (A.g g) hc hd
theorem se_call {F : List D → Rr} (h : SA K W ta a) : SE K W (tCallS (spP K F) (WE W) ta) (sCall F a) := fun Γ σ m A Q p => by
  refine h.step A p fun us Γ1 m1 vs n1 A1 r1 p1 => ?_
  cases hu : pus us with
  | none => rw [hu] at p1; exact p1.elim
  | some ds => rw [hu] at p1; exact go_P A1 (RUs.pu r1 hu) p1
/-- a new result is frozen at once -/
theorem se_callF {F : List D → Rr} (h : SA K W ta a) : SE K W (tCallS (spF K F) (WE W) ta) (sCall F a) := fun Γ σ m A Q p => by
  refine h.step A p fun us Γ1 m1 vs n1 A1 r1 p1 => ?_
  cases hu : pus us with
  | none => rw [hu] at p1; exact p1.elim
  | some ds =>
    rw [hu] at p1
    refine ⟨m1.I, ds, A1.ih, RUs.pu r1 hu, ?_⟩
    dsimp only at p1
    cases h : F ds with
    | st => rw [h] at p1; exact p1
    | ok d =>
      rw [h] at p1
      intro I' H' b o g n0 h0 ho ro
      have g2 := g.frz n0 h0 ho
      exact p1 ⟨_, H', m1.as⟩ _ (.g g2) (A1.g g2) (.d ((ro.mono (Ex.new n0)).rp upd_same))
    | ex x => rw [h] at p1; exact fun I' H' C dx g hc hd => p1 ⟨I', H', m1.as⟩ C dx (.g g) (A1.g g) hc hd
theorem se_callA {F : List D → Rr} (h : SA K W ta a) : SE K W (tCallS (spF K F) (WE W) ta) (sCallA F a) := fun Γ σ m A Q p => by
  refine h.step A p fun us Γ1 m1 vs n1 A1 r1 p1 => ?_
  cases hu : pus us with
  | none => rw [hu] at p1; exact p1.elim
  | some ds =>
    rw [hu] at p1
    refine ⟨m1.I, ds, A1.ih, RUs.pu r1 hu, ?_⟩
    dsimp only at p1
    cases h : F ds with
    | st => rw [h] at p1; exact p1
    | ok d =>
      rw [h] at p1
      intro I' H' b o g n0 h0 ho ro
      have B := A1.g g
      have fr : ∀ j, live Γ1.mm j → m1.as j ≠ b := A1.fresh h0
      have C := B.push (x := .p d) ⟨n0, o, ho, ro⟩ nofun fr
      have := p1 ⟨I', H', updA m1.as Γ1.mm.length b⟩ (.ref (updA m1.as Γ1.mm.length b Γ1.mm.length)) ⟨g.i, fun a o h _ => g.ex _ _ h, fun a h _ => g.fr a h, g.th, fun j h => updA_ne (Nat.ne_of_lt h),
        by rw [List.length_append]; exact Nat.le_add_right _ _, fun j h => ?_⟩ C (.lc (by rw [List.length_append]; exact Nat.lt_succ_self _))
      · rw [updA_same] at this; exact this
      · rcases push_live h with ⟨_, h1⟩ | rfl
        · exact .inl h1
        · right
          show m1.H (updA m1.as Γ1.mm.length b Γ1.mm.length) = none
          rw [updA_same]; exact h0
    | ex x => rw [h] at p1; exact fun I' H' C dx g hc hd => p1 ⟨I', H', m1.as⟩ C dx (.g g) (A1.g g) hc hd
theorem se_callB {F : List U → List Cell → Rb} (h : SA K W ta a) : SE K W (tCallS (spB K F) (WE W) ta) (sCallB F a) := fun Γ σ m A Q p => by
  refine h.step A p fun us Γ1 m1 vs n1 A1 r1 p1 => ?_
  refine ⟨m1, us, Γ1.mm, rfl, A1.cs, r1, ?_⟩
  cases hF : F us Γ1.mm with
  | st => rw [hF] at p1; exact p1
  | ok d mm' => rw [hF] at p1; exact fun m' v nx c rv => p1 m' v nx (Cs.at_ A1 c nx) (.d rv)
  | ex x mm' => rw [hF] at p1; exact fun m' C dx nx c hc hd => p1 m' C dx nx (Cs.at_ A1 c nx) hc hd
end
/-! ### the law -/
theorem Cal.fn {P : Program} {w : World} {K : PySem.W.Frag} {mg : Str → Option Value} {base : Heap} {x qual : Str} {st : Stmt} {ps : List Str} {k : Nat} {sp : Sp} {f : Addr} {fd : FuncData} (C : Cal P w K mg base x k ps sp) (F : Fun K x qual st f fd) (hm : mg x = some (.ref f)) : FnOk P w K mg base (L2.CX P w) k f fd ps sp := by
  obtain ⟨f', fd', FF, hm', _, _, oc, od, osl, lk⟩ := C.ex
  obtain ⟨oc2, od2, kV, doc, pm, an, cdv, ct, osl2, _, lk2, _⟩ := F.ex
  rw [hm] at hm'
  cases hm'
  rw [lk] at lk2
  cases lk2
  exact FF
theorem law_fn {P : Program} {w : World} {K : PySem.W.Frag} {mg : Str → Option Value} {base : Heap} {qual : Str} {st : Stmt} {ps : List Str} {k : Nat} {FF : List D → Rr} {f : Addr} {fd : FuncData} (C : Cal P w K mg base "law" k ps (spP K FF)) (F : Fun K "law" qual st f fd) (hm : mg "law" = some (.ref f))
    (hR : ∀ ns : List Int, ns.length ≤ 63 → FF [.fl (ns.map D.int)] = .ok (.bl true)) : FnOk P w K mg base (L2.CX P w) k f fd ps (G.spLaw K) :=
  (C.fn F hm).imp fun vs H Q E h => by
    obtain ⟨a, ns, rfl, hs, hl, q⟩ := h
    refine ⟨H, [.fl (ns.map D.int)], Ex.refl H, .cons (.fl hs rps_of_ints) .nil, ?_⟩
    rw [hR ns hl]
    exact fun I' H' v _ r => by cases r; exact q H'
end S

namespace S
open PySem PySem.Spec L2 PyProof.Rows
open G (Ex Gr ex_l ex_t ExnAt exx exx_ok GlobIs)
theorem u65 {k : Nat} {A : Around} (r : Room k A) : A.units + 65 < cLine := by have := r.un; omega
theorem _root_.L2.Room.units1 {k : Nat} {A : Around} (r : Room k A) : A.units + 1 < cLine := by have := r.un; omega
theorem cx_no {P : Program} {w : World} {H : Hp} {s : Shared} {e : Value} {s' : Shared} (h : L2.CX P w [] H s (fun _ _ _ => False) e s') : False := by
  obtain ⟨_, _, _, _, _, _, _, _, _, _, _, _, z⟩ := h
  exact z
/-! ### defs by their length -/
def defP (k n : Nat) (body : Sg → Rs Fl) : List D → Rr := fun ds => if ds.length = k then runP n body ds else .st
def defF (k n : Nat) (body : Sg → Rs Fl) : List D → Rr := fun ds => if ds.length = k then runF n body ds else .st
def defB (k n : Nat) (body : Sg → Rs Fl) : List U → List Cell → Rb := fun us mm => if us.length = k then runB n body us mm else .st
section
variable {P : Program} {w : World} {K : PySem.W.Frag} {mg : Str → Option Value} {base : Heap} {x qual : Str} {st : Stmt} {N ps : List Str} {k n j : Nat} {body : Sg → Rs Fl}
theorem okd_P (D1 : G.DefAt K mg x qual st ps) (S : FnScope N ps (defScope st)) (hN : N.length = n) (hp : ps.length = j) (hb : ∀ f, BodyOk P w K mg base N qual st f k body) : Cal P w K mg base x (k + 1) ps (spP K (defP j n body)) :=
  ok_P D1 S hN (fun ds h => by
    unfold defP at h ⊢
    split
    · rename_i hl; exact ⟨rfl, hl.trans hp.symm⟩
    · rename_i hl; rw [if_neg hl] at h; exact absurd rfl h) hb
theorem okd_F (D1 : G.DefAt K mg x qual st ps) (S : FnScope N ps (defScope st)) (hN : N.length = n) (hp : ps.length = j) (hb : ∀ f, BodyOk P w K mg base N qual st f k body) : Cal P w K mg base x (k + 1) ps (spF K (defF j n body)) :=
  ok_F D1 S hN (fun ds h => by
    unfold defF at h ⊢
    split
    · rename_i hl; exact ⟨rfl, hl.trans hp.symm⟩
    · rename_i hl; rw [if_neg hl] at h; exact absurd rfl h) hb
theorem okd_B (D1 : G.DefAt K mg x qual st ps) (S : FnScope N ps (defScope st)) (hN : N.length = n) (hp : ps.length = j) (hb : ∀ f, BodyOk P w K mg base N qual st f k body) : Cal P w K mg base x (k + 1) ps (spB K (defB j n body)) :=
  ok_B D1 S hN (fun us mm h => by
    unfold defB at h ⊢
    split
    · rename_i hl; exact ⟨rfl, hl.trans hp.symm⟩
    · rename_i hl; rw [if_neg hl] at h; exact absurd rfl h) hb
end
/-! ### a, b = e, f -/
def sPar (i j : Nat) (a b : Sg → Rs U) : Sg → Rs Fl := fun Γ => (a Γ).bind fun x Γ1 => (b Γ1).bind fun y Γ2 => .ok .nx ⟨(Γ2.sl.set i (some x)).set j (some y), Γ2.mm⟩
section
variable {K : PySem.W.Frag} {W : WX} {ta tb : TE} {a b : Sg → Rs U} {i j : Nat}
theorem ss_par (h1 : SE K W ta a) (h2 : SE K W tb b) : SS K W (tPar i j (tCons ta (tCons tb tNil))) (sPar i j a b) := fun Γ σ m De A p => by
  refine h1.stepS A p fun x Γ1 m1 v n1 A1 r1 p1 => h2.stepS A1 p1 fun y Γ2 m2 w n2 A2 r2 p2 => ?_
  refine ⟨v, w, rfl, p2 _ m2 .refl ?_⟩
  exact (A2.set (RU.mono n2 r1)).set (i := j) r2
end
/-! ### tuples of texts of the module -/
/-- a written tuple of texts -/
theorem kt_strs {K : PySem.W.Frag} {a : Addr} {od : Option Addr} {its : Array Value} {n : Nat} {sl : Array (Option Value)} {ss : List Str} (h : K.lookup a = some ⟨.type "tuple", od, .seq its n, sl⟩) (hl : its.size ≤ sizeLine) (hv : Vals (ss.map V.str) its.toList) (I : Hp) : Rp K I (.ref a) (.kt (ss.map D.str)) :=
  .kt (.inr ⟨_, its, n, h, rfl, rfl, hl, hv⟩) rps_of_strs
/-! ### D.get(x, y), D a written dict of texts by texts -/
structure KTab (K : PySem.W.Frag) (w : World) (d : Addr) (tbl : List (Str × Str)) : Prop where
  ex : ∃ (es : Array DictEntry) (n : Nat), K.lookup d = some ⟨.type "dict", none, .dict es n, #[]⟩ ∧ Paired (fun (p : Str × Str) (e : DictEntry) => (∃ t, e.key = .str p.1 t ∧ e.hash = PyData.keyHash w.params p.1) ∧ ∃ t, e.val = .str p.2 t) tbl es.toList
  low : (d == sysModules) = false
theorem ktab_lit {w : World} : ∀ {tbl : List (Str × Str)} {es : List DictEntry}, Paired (fun (p : Str × Str) (e : DictEntry) => (∃ t, e.key = .str p.1 t ∧ e.hash = PyData.keyHash w.params p.1) ∧ ∃ t, e.val = .str p.2 t) tbl es → PySem.W.KeysLit w.params es
  | _, _, .nil => trivial
  | _, _, .cons h r => ⟨⟨_, h.1⟩, ktab_lit r⟩
theorem ktab_find {w : World} {s : Str} : ∀ {tbl : List (Str × Str)} {es : List DictEntry}, Paired (fun (p : Str × Str) (e : DictEntry) => (∃ t, e.key = .str p.1 t ∧ e.hash = PyData.keyHash w.params p.1) ∧ ∃ t, e.val = .str p.2 t) tbl es →
    (∀ r, tbl.lookup s = some r → ∃ t, (es.find? fun e => Value.isStrOf s e.key).map (·.val) = some (.str r t)) ∧ (tbl.lookup s = none → (es.find? fun e => Value.isStrOf s e.key).map (·.val) = none)
  | _, _, .nil => ⟨fun r h => by simp at h, fun _ => rfl⟩
  | (k, v) :: tbl, e :: es, .cons h r => by
    have ih := ktab_find (s := s) r
    obtain ⟨⟨t, hk, _⟩, t2, hv⟩ := h
    dsimp only at hk hv
    by_cases z : s = k
    · subst z
      have e1 : Value.isStrOf s e.key = true := by rw [hk]; simp [Value.isStrOf]
      refine ⟨fun q hq => ?_, fun hq => ?_⟩
      · simp [List.lookup] at hq
        subst hq
        rw [List.find?_cons_of_pos (p := fun e => Value.isStrOf s e.key) (a := e) e1]
        exact ⟨t2, by rw [← hv]; rfl⟩
      · simp [List.lookup] at hq
    · have e1 : ¬ Value.isStrOf s e.key = true := by
        rw [hk]; simp [Value.isStrOf]; exact fun q => z q.symm
      have e2 : (s == k) = false := by simpa using z
      rw [List.find?_cons_of_neg (p := fun e => Value.isStrOf s e.key) (a := e) e1]
      simp only [List.lookup, e2]
      exact ih
def tKGet (tbl : List (Str × Str)) (te tf : TE) : TE := fun σ H Q => te σ H fun y H1 => tf σ H1 fun z H2 => ∃ s, y = .str s ∧ Q (match tbl.lookup s with | some r => .str r | none => z) H2
theorem pe_kget {X : Cx} {D : Addr} {x : Str} {tbl : List (Str × Str)} {e f : Expr} {te tf : TE} {p apos cpos : Pos} (T : KTab X.K X.w D tbl) (hg : Gl X x) (hm : X.mg x = some (.ref D)) (he : PE X e te) (hf : PE X f tf) (m : M2 X (.Name x p) "get" apos e f cpos) (hdb : (x == ("__debug__" : Str)) = false := by decide) :
    PE X (.Call (.Attribute (.Name x p) "get" apos) [e, f] [] cpos) (tKGet tbl te tf) := by
  refine ⟨fun pins s σ H Q I h => ?_⟩
  obtain ⟨es, n, hl, hp⟩ := T.ex
  have M := fun {h : Heap} (k : X.K.In h) => PySem.W.mapOf_K (prog := X.prog) (w := X.w) k hl (ktab_lit hp)
  refine wpAny_Call_method m.base m.few m.line PySem.F.plainAttrs_dict PySem.F.slot_dict_get PySem.F.type_dict_get (ld_glob I hg hm ?_ hdb)
  refine ⟨(M I.kIn).typeIs, fun b q => ?_, ?_⟩
  · cases q
    exact ⟨_, I.kIn _ _ hl, rfl⟩
  rw [m.trees]
  refine Calls.callWith_builtin rfl (Calls.evalArgs_plain (Calls.spliced_cons (thn (he.run pins s σ H _ I h) fun iv s2 ⟨y, H2, I2, ry, q2⟩ =>
    Calls.spliced_cons (thn (hf.run pins s2 σ H2 _ I2 q2) fun fv s3 ⟨z, H3, I3, rz, st, ey, q3⟩ => Calls.spliced_nil ?_))))
  subst ey
  obtain ⟨t, rfl⟩ := ry
  refine call_meetsIn PySem.F.slot_dict_get (M I3.kIn).typeIs PySem.F.entry_dict_get (PySem.F.args_dict_get_3 _ _ _) (meets_dict_get_default (strKind X.prog X.w) D (PySem.strKind_is X.prog X.w st t) T.low fv) ⟨_, M I3.kIn, ?_⟩
  have k := ktab_find (s := st) hp
  have key : findBy Value.isStrOf es st = (es.toList.find? fun e => Value.isStrOf st e.key).map (·.val) := by unfold findBy; rw [Array.find?_toList]
  refine ⟨_, H3, I3.tok _, ?_, q3⟩
  show RelV _ ((findBy Value.isStrOf es st).getD fv)
  rw [key]
  cases hq : tbl.lookup st with
  | none => rw [k.2 hq]; exact rz
  | some r => obtain ⟨t2, h2⟩ := k.1 r hq; rw [h2]; exact ⟨t2, rfl⟩
def sKGet (tbl : List (Str × Str)) (a b : Sg → Rs U) : Sg → Rs U := fun Γ => (a Γ).bind fun x Γ1 => (b Γ1).bind fun y Γ2 => match x with
  | .d (.str s) => (match tbl.lookup s with
    | some r => .ok (.d (.str r)) Γ2
    | none => .ok y Γ2)
  | _ => .st
theorem se_kget {K : PySem.W.Frag} {W : WX} {ta tb : TE} {a b : Sg → Rs U} {tbl : List (Str × Str)} (h1 : SE K W ta a) (h2 : SE K W tb b) : SE K W (tKGet tbl ta tb) (sKGet tbl a b) := fun Γ σ m A Q p => by
  refine h1.step A p fun x Γ1 m1 v n1 A1 r1 p1 => h2.step A1 p1 fun y Γ2 m2 w n2 A2 r2 p2 => ?_
  cases x with
  | lc _ => exact p2.elim
  | d x =>
    cases x <;> first | exact p2.elim | skip
    rename_i s
    cases r1 with
    | d r1 =>
      cases r1
      refine ⟨s, rfl, ?_⟩
      dsimp only at p2
      cases hq : tbl.lookup s with
      | none => rw [hq] at p2; exact p2 m2 w .refl A2 r2
      | some r => rw [hq] at p2; exact p2 m2 _ .refl A2 (.d (.str r))
end S

namespace S
open PySem PySem.Spec L2
/-! ### shadows, run -/
section
variable {α β : Type}
@[simp ↓] theorem bind_ev (r : Rs α) (f : α → Sg → Rs β) : r.bind f = match r with
  | .st => .st
  | .ok a g => f a g
  | .ex x g => .ex x g := rfl
@[simp ↓] theorem obind_ev (o : Option α) (f : α → Option β) : o.bind f = match o with
  | none => none
  | some a => f a := by cases o <;> rfl
@[simp] theorem bind_ok (a : α) (g : Sg) (f : α → Sg → Rs β) : (Rs.ok a g).bind f = f a g := rfl
@[simp] theorem bind_st (f : α → Sg → Rs β) : (Rs.st : Rs α).bind f = .st := rfl
@[simp] theorem bind_ex (x : Xn) (g : Sg) (f : α → Sg → Rs β) : (Rs.ex x g : Rs α).bind f = .ex x g := rfl
end
section
variable (Γ : Sg) (a b c : Sg → Rs U) (i j : Nat)
@[simp ↓] theorem sVar_ev (sl : List (Option U)) (mm : List Cell) : sVar i ⟨sl, mm⟩ = match sl[i]? with
  | some (some u) => .ok u ⟨sl, mm⟩
  | _ => .st := rfl
@[simp ↓] theorem sC_ev (d : D) : sC d Γ = .ok (.d d) Γ := rfl
@[simp ↓] theorem sOp_ev (f : D → D → Option D) : sOp f a b Γ = (a Γ).bind fun x Γ1 => (b Γ1).bind fun y Γ2 => ofO ((dr Γ2.mm x).bind fun x => (dr Γ2.mm y).bind fun y => f x y) Γ2 := rfl
@[simp ↓] theorem sOpA_ev (f : D → D → Option D) : sOpA f a b Γ = (a Γ).bind fun x Γ1 => (b Γ1).bind fun y Γ2 => ofA ((dr Γ2.mm x).bind fun x => (dr Γ2.mm y).bind fun y => f x y) Γ2 := rfl
@[simp ↓] theorem sUn_ev (f : D → Option D) : sUn f a Γ = (a Γ).bind fun x Γ1 => ofO ((dr Γ1.mm x).bind f) Γ1 := rfl
@[simp ↓] theorem sCb_ev (f : List D → Option D) (a : Sg → Rs (List U)) : sCb f a Γ = (a Γ).bind fun xs Γ1 => ofO ((drs Γ1.mm xs).bind f) Γ1 := rfl
@[simp ↓] theorem sCbA_ev (f : List D → Option D) (a : Sg → Rs (List U)) : sCbA f a Γ = (a Γ).bind fun xs Γ1 => ofA ((drs Γ1.mm xs).bind f) Γ1 := rfl
@[simp ↓] theorem sNil_ev : sNil Γ = .ok [] Γ := rfl
@[simp ↓] theorem sCons_ev (r : Sg → Rs (List U)) : sCons a r Γ = (a Γ).bind fun x Γ1 => (r Γ1).bind fun xs Γ2 => .ok (x :: xs) Γ2 := rfl
@[simp ↓] theorem sTup_ev (a : Sg → Rs (List U)) : sTup a Γ = (a Γ).bind fun xs Γ1 => ofO ((pus xs).bind fun ds => if ds.length ≤ sizeLine then some (.tup ds) else none) Γ1 := rfl
@[simp ↓] theorem sLst_ev (a : Sg → Rs (List U)) : sLst a Γ = (a Γ).bind fun xs Γ1 => ofO ((pus xs).bind fun ds => if ds.length ≤ sizeLine then some (.lst ds) else none) Γ1 := rfl
@[simp ↓] theorem sLstA_ev (a : Sg → Rs (List U)) : sLstA a Γ = (a Γ).bind fun xs Γ1 => ofA ((pus xs).bind fun ds => if ds.length ≤ sizeLine then some (.lst ds) else none) Γ1 := rfl
@[simp ↓] theorem tB1_ev : tB1 a Γ = (a Γ).bind fun x Γ1 => ofB (tr1 Γ1.mm x) Γ1 := rfl
@[simp ↓] theorem tNot1_ev (a : Sg → Rs Bool) : tNot1 a Γ = (a Γ).bind fun x Γ1 => .ok (!x) Γ1 := rfl
@[simp ↓] theorem tAnd1_ev (a b : Sg → Rs Bool) : tAnd1 a b Γ = (a Γ).bind fun x Γ1 => if x then b Γ1 else .ok false Γ1 := rfl
@[simp ↓] theorem tOr1_ev (a b : Sg → Rs Bool) : tOr1 a b Γ = (a Γ).bind fun x Γ1 => if x then .ok true Γ1 else b Γ1 := rfl
@[simp ↓] theorem tYes1_ev : tYes1 Γ = .ok true Γ := rfl
@[simp ↓] theorem sAnd_ev : sAnd a b Γ = (a Γ).bind fun x Γ1 => match tr1 Γ1.mm x with
  | some true => b Γ1
  | some false => .ok (.d (.bl false)) Γ1
  | none => .st := rfl
@[simp ↓] theorem sOr_ev : sOr a b Γ = (a Γ).bind fun x Γ1 => match tr1 Γ1.mm x with
  | some true => .ok (.d (.bl true)) Γ1
  | some false => b Γ1
  | none => .st := rfl
@[simp ↓] theorem sNot_ev : sNot a Γ = (a Γ).bind fun x Γ1 => match tr1 Γ1.mm x with
  | some k => .ok (.d (.bl (!k))) Γ1
  | none => .st := rfl
@[simp ↓] theorem sIfE_ev (t : Sg → Rs Bool) : sIfE t a b Γ = (t Γ).bind fun x Γ1 => if x then a Γ1 else b Γ1 := rfl
@[simp ↓] theorem sChain_ev (f g : D → D → Option D) : sChain f g a b c Γ = (a Γ).bind fun x Γ1 => (b Γ1).bind fun y Γ2 => match (dr Γ2.mm x).bind fun x => (dr Γ2.mm y).bind fun y => f x y with
  | some (.bl true) => (c Γ2).bind fun z Γ3 => ofO ((dr Γ3.mm y).bind fun y => (dr Γ3.mm z).bind fun z => g y z) Γ3
  | some (.bl false) => .ok (.d (.bl false)) Γ2
  | _ => .st := rfl
@[simp ↓] theorem oNone_ev : oNone Γ = .ok none Γ := rfl
@[simp ↓] theorem oSome_ev : oSome a Γ = (a Γ).bind fun x Γ1 => match dr Γ1.mm x with
  | some (.int i) => .ok (some i) Γ1
  | _ => .st := rfl
@[simp ↓] theorem sSl_ev (f : D → Option Int → Option Int → Option D) (l h : Sg → Rs (Option Int)) : sSl f a l h Γ = (a Γ).bind fun x Γ1 => (l Γ1).bind fun lo Γ2 => (h Γ2).bind fun hi Γ3 => ofO ((dr Γ3.mm x).bind fun x => f x lo hi) Γ3 := rfl
@[simp ↓] theorem sSlA_ev (f : D → Option Int → Option Int → Option D) (l h : Sg → Rs (Option Int)) : sSlA f a l h Γ = (a Γ).bind fun x Γ1 => (l Γ1).bind fun lo Γ2 => (h Γ2).bind fun hi Γ3 => ofA ((dr Γ3.mm x).bind fun x => f x lo hi) Γ3 := rfl
@[simp ↓] theorem sIx_ev : sIx a b Γ = (a Γ).bind fun x Γ1 => (b Γ1).bind fun y Γ2 => match x with
  | .d x => ofO ((dr Γ2.mm y).bind fun y => ixD x y) Γ2
  | .lc j => match Γ2.mm[j]? with
    | some (.p x) => ofO ((dr Γ2.mm y).bind fun y => ixD x y) Γ2
    | some (.n us) => (match y with
      | .d (.int i) => (match atI us i with
        | some u => .ok u Γ2
        | none => .st)
      | _ => .st)
    | _ => .st := rfl
@[simp ↓] theorem sM1_ev (f : D → D → Option D) : sM1 f a b Γ = (a Γ).bind fun x Γ1 => match x with
  | .d (.str s) => (b Γ1).bind fun y Γ2 => ofO ((dr Γ2.mm y).bind fun y => f (.str s) y) Γ2
  | _ => .st := rfl
@[simp ↓] theorem sM1A_ev (f : D → D → Option D) : sM1A f a b Γ = (a Γ).bind fun x Γ1 => match x with
  | .d (.str s) => (b Γ1).bind fun y Γ2 => ofA ((dr Γ2.mm y).bind fun y => f (.str s) y) Γ2
  | _ => .st := rfl
@[simp ↓] theorem sM0_ev (f : D → Option D) : sM0 f a Γ = (a Γ).bind fun x Γ1 => match x with
  | .d (.str s) => ofO (f (.str s)) Γ1
  | _ => .st := rfl
@[simp ↓] theorem iU_ev : iU a Γ = (a Γ).bind fun u Γ1 => match (pu u).bind itU with
  | some ds => .ok ds Γ1
  | none => .st := rfl
@[simp ↓] theorem iCa_ev (f : List D → Option (List D)) (a : Sg → Rs (List U)) : iCa f a Γ = (a Γ).bind fun us Γ1 => match (pus us).bind f with
  | some ds => .ok ds Γ1
  | none => .st := rfl
@[simp ↓] theorem sApp_ev : sApp a b Γ = (a Γ).bind fun u Γ1 => if isLc Γ1.mm u then (b Γ1).bind fun w Γ2 => (match u with
  | .lc j => (match Γ2.mm[j]? with
    | some (.p (.lst ds)) => (match pu w with
      | some d => if ds.length < sizeLine then .ok (.d .non) ⟨Γ2.sl, Γ2.mm.set j (.p (.lst (ds ++ [d])))⟩ else .st
      | none => .st)
    | some (.n us) => if us.length < sizeLine then .ok (.d .non) ⟨Γ2.sl, Γ2.mm.set j (.n (us ++ [w]))⟩ else .st
    | _ => .st)
  | _ => .st) else .st := rfl
@[simp ↓] theorem sSetL_ev : sSetL a b c Γ = (a Γ).bind fun w Γ1 => (b Γ1).bind fun u Γ2 => (c Γ2).bind fun k Γ3 => match u, k with
  | .lc j, .d (.int k) => (match Γ3.mm[j]? with
    | some (.p (.lst ds)) => (match pu w, ixN ds.length k with
      | some d, some n => .ok .nx ⟨Γ3.sl, Γ3.mm.set j (.p (.lst (ds.set n d)))⟩
      | _, _ => .st)
    | some (.n us) => (match ixN us.length k with
      | some n => .ok .nx ⟨Γ3.sl, Γ3.mm.set j (.n (us.set n w))⟩
      | _ => .st)
    | _ => .st)
  | _, _ => .st := rfl
@[simp ↓] theorem sSetD_ev : sSetD a b c Γ = (a Γ).bind fun w Γ1 => (b Γ1).bind fun u Γ2 => (c Γ2).bind fun k Γ3 => match u, k, w with
  | .lc j, .d k, .d w => (match Γ3.mm[j]? with
    | some (.p x) => (match putD x k w with
      | some y => .ok .nx ⟨Γ3.sl, Γ3.mm.set j (.p y)⟩
      | none => .st)
    | _ => .st)
  | _, _, _ => .st := rfl
@[simp ↓] theorem sDK_ev : sDK Γ = .ok (.d (.dic [] [])) Γ := rfl
@[simp ↓] theorem sDKA_ev : sDKA Γ = .ok (.lc Γ.mm.length) ⟨Γ.sl, Γ.mm ++ [.p (.dic [] [])]⟩ := rfl
@[simp ↓] theorem pN_ev : pN Γ = .ok ([], []) Γ := rfl
@[simp ↓] theorem pC_ev (r : Sg → Rs (List Key × List D)) : pC a b r Γ = (a Γ).bind fun x Γ1 => (b Γ1).bind fun y Γ2 => match (pu x).bind keyOf, pu y with
  | some key, some d => (r Γ2).bind fun kd Γ3 => .ok (key :: kd.1, d :: kd.2) Γ3
  | _, _ => .st := rfl
@[simp ↓] theorem sDisp_ev (r : Sg → Rs (List Key × List D)) : sDisp r Γ = (r Γ).bind fun kd Γ1 => if kd.1.Nodup ∧ kd.1.length ≤ 15 then .ok (.d (.dic kd.1 kd.2)) Γ1 else .st := rfl
@[simp ↓] theorem sCall_ev (F : List D → Rr) (a : Sg → Rs (List U)) : sCall F a Γ = (a Γ).bind fun us Γ1 => match pus us with
  | some ds => ofR (F ds) Γ1
  | none => .st := rfl
@[simp ↓] theorem sCallA_ev (F : List D → Rr) (a : Sg → Rs (List U)) : sCallA F a Γ = (a Γ).bind fun us Γ1 => match pus us with
  | some ds => ofRA (F ds) Γ1
  | none => .st := rfl
@[simp ↓] theorem sCallB_ev (F : List U → List Cell → Rb) (a : Sg → Rs (List U)) : sCallB F a Γ = (a Γ).bind fun us Γ1 => match F us Γ1.mm with
  | .st => .st
  | .ok d mm => .ok (.d d) ⟨Γ1.sl, mm⟩
  | .ex x mm => .ex x ⟨Γ1.sl, mm⟩ := rfl
@[simp ↓] theorem sKGet_ev (tbl : List (Str × Str)) : sKGet tbl a b Γ = (a Γ).bind fun x Γ1 => (b Γ1).bind fun y Γ2 => match x with
  | .d (.str s) => (match tbl.lookup s with
    | some r => .ok (.d (.str r)) Γ2
    | none => .ok y Γ2)
  | _ => .st := rfl
@[simp ↓] theorem sNx_ev : sNx Γ = .ok .nx Γ := rfl
@[simp ↓] theorem sBk_ev : sBk Γ = .ok .bk Γ := rfl
@[simp ↓] theorem sCt_ev : sCt Γ = .ok .ct Γ := rfl
@[simp ↓] theorem sSeq_ev (a b : Sg → Rs Fl) : sSeq a b Γ = match a Γ with
  | .ok .nx Γ1 => b Γ1
  | r => r := rfl
@[simp ↓] theorem sIf_ev (t : Sg → Rs Bool) (a b : Sg → Rs Fl) : sIf t a b Γ = (t Γ).bind fun x Γ1 => if x then a Γ1 else b Γ1 := rfl
@[simp ↓] theorem sAsg_ev (tg : U → Sg → Option Sg) : sAsg a tg Γ = (a Γ).bind fun u Γ1 => match tg u Γ1 with
  | some Γ2 => .ok .nx Γ2
  | none => .st := rfl
@[simp ↓] theorem sDrop_ev : sDrop a Γ = (a Γ).bind fun _ Γ1 => .ok .nx Γ1 := rfl
@[simp ↓] theorem sRet_ev : sRet a Γ = (a Γ).bind fun u Γ1 => match pu u with
  | some d => .ok (.rt d) Γ1
  | none => .st := rfl
@[simp ↓] theorem sRetN_ev : sRetN Γ = .ok (.rt .non) Γ := rfl
@[simp ↓] theorem sFz_ev : sFz a Γ = (a Γ).bind fun u Γ1 => match u with
  | .d d => .ok (.d d) Γ1
  | .lc j => match Γ1.mm[j]? with
    | some (.p d) => .ok (.d d) (fz j d Γ1)
    | _ => .st := rfl
@[simp ↓] theorem sRetF_ev : sRetF a Γ = (a Γ).bind fun u Γ1 => match u with
  | .lc j => (match Γ1.mm[j]? with
    | some (.p d) => .ok (.rf j d) Γ1
    | _ => .st)
  | _ => .st := rfl
@[simp ↓] theorem sPar_ev : sPar i j a b Γ = (a Γ).bind fun x Γ1 => (b Γ1).bind fun y Γ2 => .ok .nx ⟨(Γ2.sl.set i (some x)).set j (some y), Γ2.mm⟩ := rfl
@[simp ↓] theorem gN_ev (u : U) : gN i u Γ = some ⟨Γ.sl.set i (some u), Γ.mm⟩ := rfl
@[simp ↓] theorem gT_ev (n : Nat) (gs : List D → Sg → Option Sg) (ds : List D) : gT n gs (.d (.tup ds)) Γ = if ds.length = n then gs ds Γ else none := rfl
@[simp ↓] theorem gsN_ev : gsN [] Γ = some Γ := rfl
@[simp ↓] theorem gsC_ev (g : U → Sg → Option Sg) (gs : List D → Sg → Option Sg) (d : D) (ds : List D) : gsC g gs (d :: ds) Γ = (g (.d d) Γ).bind fun Γ1 => gs ds Γ1 := rfl
@[simp ↓] theorem sFor_ev (fg : List Nat) (src : Sg → Rs (List D)) (tg : U → Sg → Option Sg) (body : Sg → Rs Fl) : sFor fg src tg body Γ = (src Γ).bind fun xs Γ1 => forL fg tg body xs Γ1 := rfl
@[simp ↓] theorem sLc_ev (src : Sg → Rs (List D)) (tg : U → Sg → Option Sg) (tt : Sg → Rs Bool) (te : Sg → Rs U) (vs : List Nat) : sLc src tg tt te vs Γ = (src Γ).bind fun xs Γ1 => if xs.length ≤ 10000000 then (match lcL Γ1.sl vs tg tt te xs Γ1 [] with
    | .ok ds Γ2 => .ok (.d (.lst ds)) Γ2
    | _ => .st) else .st := rfl
@[simp ↓] theorem sLcA_ev (src : Sg → Rs (List D)) (tg : U → Sg → Option Sg) (tt : Sg → Rs Bool) (te : Sg → Rs U) (vs : List Nat) : sLcA src tg tt te vs Γ = (src Γ).bind fun xs Γ1 => if xs.length ≤ 10000000 then (match lcL Γ1.sl vs tg tt te xs Γ1 [] with
    | .ok ds Γ2 => .ok (.lc Γ2.mm.length) ⟨Γ2.sl, Γ2.mm ++ [.p (.lst ds)]⟩
    | _ => .st) else .st := rfl
end
@[simp] theorem fgt_nil (sl : List (Option U)) : fgt [] sl = sl := rfl
@[simp] theorem fgt_cons (i : Nat) (is : List Nat) (sl : List (Option U)) : fgt (i :: is) sl = (fgt is sl).set i none := rfl
@[simp] theorem Sg_fg (sl : List (Option U)) (mm : List Cell) (is : List Nat) : (Sg.mk sl mm).fg is = ⟨fgt is sl, mm⟩ := rfl
@[simp] theorem wipeS_nil (sl : List (Option U)) : wipeS sl [] = sl := rfl
@[simp] theorem wipeS_cons (i : Nat) (is : List Nat) (sl : List (Option U)) : wipeS sl (i :: is) = (wipeS sl is).set i none := rfl
@[simp] theorem drs_nil (mm : List Cell) : drs mm [] = some [] := rfl
@[simp] theorem drs_cons (mm : List Cell) (u : U) (us : List U) : drs mm (u :: us) = (dr mm u).bind fun d => (drs mm us).bind fun ds => some (d :: ds) := rfl
@[simp] theorem pus_nil : pus [] = some [] := rfl
@[simp] theorem pus_cons (u : U) (us : List U) : pus (u :: us) = (pu u).bind fun d => (pus us).bind fun ds => some (d :: ds) := rfl
@[simp] theorem dr_lc {mm : List Cell} {j : Nat} {d : D} (h : mm[j]? = some (.p d)) : dr mm (.lc j) = some d := by simp [dr, h]
@[simp] theorem get_set {mm : List Cell} {j : Nat} {c c' : Cell} (h : mm[j]? = some c) : (mm.set j c')[j]? = some c' := by
  have := (List.getElem?_eq_some_iff.mp h).1
  simp [this]
@[simp] theorem isLc_d (mm : List Cell) (d : D) : isLc mm (.d d) = false := rfl
@[simp] theorem isLc_p {mm : List Cell} {j : Nat} {ds : List D} (h : mm[j]? = some (.p (.lst ds))) : isLc mm (.lc j) = true := by simp [isLc, h]
@[simp] theorem isLc_n {mm : List Cell} {j : Nat} {us : List U} (h : mm[j]? = some (.n us)) : isLc mm (.lc j) = true := by simp [isLc, h]
/-! ### loops, run -/
theorem forL_inv {fg : List Nat} {tg : U → Sg → Option Sg} {body : Sg → Rs Fl} {xs : List D} (P : Sg → Prop)
    (h : ∀ x ∈ xs, ∀ Γ, P Γ → ∃ Γ1 Γ2, tg (.d x) Γ = some Γ1 ∧ (body Γ1 = .ok .nx Γ2 ∨ body Γ1 = .ok .ct Γ2) ∧ P (Γ2.fg fg)) (Γ : Sg) (h0 : P (Γ.fg fg)) : ∃ Γ', forL fg tg body xs Γ = .ok .nx Γ' ∧ P Γ' := by
  induction xs generalizing Γ with
  | nil => exact ⟨_, rfl, h0⟩
  | cons x xs ih =>
    obtain ⟨Γ1, Γ2, h1, h2, h3⟩ := h x (List.mem_cons_self ..) _ h0
    obtain ⟨Γ', h4, h5⟩ := ih (fun y hy => h y (List.mem_cons_of_mem _ hy)) Γ2 h3
    refine ⟨Γ', ?_, h5⟩
    rw [forL, h1]
    dsimp only
    rcases h2 with h2 | h2 <;> rw [h2] <;> exact h4
def lcStep (sl : List (Option U)) (vs : List Nat) (tg : U → Sg → Option Sg) (tt : Sg → Rs Bool) (te : Sg → Rs U) (x : D) (mm : List Cell) : Option (Option D × List Cell) := match tg (.d x) ⟨wipeS sl vs, mm⟩ with
  | none => none
  | some Γ1 => match tt Γ1 with
    | .ok false Γ2 => some (none, Γ2.mm)
    | .ok true Γ2 => (match te Γ2 with
      | .ok (.d d) Γ3 => some (some d, Γ3.mm)
      | _ => none)
    | _ => none
theorem lcL_one {sl : List (Option U)} {vs : List Nat} {tg : U → Sg → Option Sg} {tt : Sg → Rs Bool} {te : Sg → Rs U} {x : D} {xs acc : List D} {mm mm' : List Cell} {sl' : List (Option U)} {o : Option D} (h : lcStep sl vs tg tt te x mm = some (o, mm')) :
    lcL sl vs tg tt te (x :: xs) ⟨sl', mm⟩ acc = lcL sl vs tg tt te xs ⟨sl, mm'⟩ (acc ++ o.toList) := by
  rw [lcL]
  revert h
  rw [lcStep]
  dsimp only
  cases tg (.d x) ⟨wipeS sl vs, mm⟩ with
  | none => exact fun h => nomatch h
  | some Γ1 =>
    dsimp only
    cases tt Γ1 with
    | st => exact fun h => nomatch h
    | ex _ _ => exact fun h => nomatch h
    | ok b Γ2 =>
      cases b with
      | false =>
        intro h
        cases h
        simp
      | true =>
        dsimp only
        cases te Γ2 with
        | st => exact fun h => nomatch h
        | ex _ _ => exact fun h => nomatch h
        | ok u Γ3 =>
          cases u with
          | lc _ => exact fun h => nomatch h
          | d d =>
            intro h
            cases h
            rfl
theorem lcL_fm {sl : List (Option U)} {vs : List Nat} {tg : U → Sg → Option Sg} {tt : Sg → Rs Bool} {te : Sg → Rs U} {mm : List Cell} (g : D → Option D) {xs : List D} (h : ∀ x ∈ xs, lcStep sl vs tg tt te x mm = some (g x, mm)) : ∀ acc, lcL sl vs tg tt te xs ⟨sl, mm⟩ acc = .ok (acc ++ xs.filterMap g) ⟨sl, mm⟩ := by
  induction xs with
  | nil => intro acc; simp [lcL]
  | cons x xs ih =>
    intro acc
    rw [lcL_one (h x (List.mem_cons_self ..)), ih fun y hy => h y (List.mem_cons_of_mem _ hy)]
    cases hx : g x <;> simp [hx]
theorem lcL_map {sl : List (Option U)} {vs : List Nat} {tg : U → Sg → Option Sg} {tt : Sg → Rs Bool} {te : Sg → Rs U} {mm : List Cell} (f : D → D) {xs : List D} (h : ∀ x ∈ xs, lcStep sl vs tg tt te x mm = some (some (f x), mm)) (acc : List D) : lcL sl vs tg tt te xs ⟨sl, mm⟩ acc = .ok (acc ++ xs.map f) ⟨sl, mm⟩ := by
  rw [lcL_fm (fun x => some (f x)) h]
  simp
theorem lcL_inv {sl : List (Option U)} {vs : List Nat} {tg : U → Sg → Option Sg} {tt : Sg → Rs Bool} {te : Sg → Rs U} {xs : List D} (I : Nat → List Cell → Prop) (Pd : D → Prop)
    (h : ∀ x ∈ xs, ∀ k mm, k < xs.length → I k mm → ∃ d mm', lcStep sl vs tg tt te x mm = some (some d, mm') ∧ Pd d ∧ I (k + 1) mm') {mm : List Cell} (h0 : I 0 mm) :
    ∃ ds mm', lcL sl vs tg tt te xs ⟨sl, mm⟩ [] = .ok ds ⟨sl, mm'⟩ ∧ ds.length = xs.length ∧ (∀ d ∈ ds, Pd d) ∧ I xs.length mm' := by
  suffices H : ∀ (ys : List D) (k : Nat) (mm : List Cell) (acc : List D), (∀ y ∈ ys, y ∈ xs) → k + ys.length = xs.length → I k mm → ∃ ds mm', lcL sl vs tg tt te ys ⟨sl, mm⟩ acc = .ok (acc ++ ds) ⟨sl, mm'⟩ ∧ ds.length = ys.length ∧ (∀ d ∈ ds, Pd d) ∧ I xs.length mm' by
    obtain ⟨ds, mm', h1, h2, h3, h4⟩ := H xs 0 mm [] (fun _ h => h) (Nat.zero_add _) h0
    exact ⟨ds, mm', by simpa using h1, h2, h3, h4⟩
  intro ys
  induction ys with
  | nil => intro k mm acc _ hk hi; exact ⟨[], mm, by simp [lcL], rfl, (fun _ h => nomatch h), by rw [← hk]; exact hi⟩
  | cons y ys ih =>
    intro k mm acc hs hk hi
    rw [List.length_cons] at hk
    obtain ⟨d, mm1, h1, h2, h3⟩ := h y (hs y (List.mem_cons_self ..)) k mm (by omega) hi
    obtain ⟨ds, mm', h4, h5, h6, h7⟩ := ih (k + 1) mm1 (acc ++ [d]) (fun z hz => hs z (List.mem_cons_of_mem _ hz)) (by omega) h3
    refine ⟨d :: ds, mm', ?_, by simp [h5], ?_, h7⟩
    · rw [lcL_one h1, Option.toList_some, h4]
      simp
    · intro z hz
      rcases List.mem_cons.mp hz with rfl | hz
      · exact h2
      · exact h6 z hz
/-! ### the built-in things, run -/
section
variable (i j : Int)
@[simp] theorem eqD_int : eqD (.int i) (.int j) = some (.bl (decide (i = j))) := rfl
@[simp] theorem eqD_str (s t : Str) : eqD (.str s) (.str t) = some (.bl (decide (s = t))) := rfl
@[simp] theorem addD_int : addD (.int i) (.int j) = some (.int (i + j)) := rfl
@[simp] theorem subD_int : subD (.int i) (.int j) = some (.int (i - j)) := rfl
@[simp] theorem ltD_int : ltD (.int i) (.int j) = some (.bl (decide (i < j))) := rfl
@[simp] theorem leD_int : leD (.int i) (.int j) = some (.bl (decide (i ≤ j))) := rfl
@[simp] theorem gtD_int : gtD (.int i) (.int j) = some (.bl (decide (j < i))) := rfl
@[simp] theorem geD_int : geD (.int i) (.int j) = some (.bl (decide (j ≤ i))) := rfl
@[simp] theorem isND_non (x : D) : isND x .non = some (.bl (isNon x)) := rfl
@[simp] theorem nnND_non (x : D) : nnND x .non = some (.bl (!isNon x)) := rfl
theorem modD_int (h : 0 < j) : modD (.int i) (.int j) = some (.int (i % j)) := if_pos h
theorem divD_int (h : 0 < j ∧ j < 2 ^ 64) : divD (.int i) (.int j) = some (.int (i / j)) := if_pos h
theorem mulD_int (h : i.natAbs.log2 + j.natAbs.log2 < 1000000) : mulD (.int i) (.int j) = some (.int (i * j)) := if_pos h
theorem powD_10 : powD (.int 10) (.int 18) = some (.int 1000000000000000000) := by
  rw [powD, if_pos (by decide)]
  rfl
theorem log2_small {n k : Nat} (h : n < 2 ^ k) (hk : 0 < k) : n.log2 < k := by
  by_cases hn : n = 0
  · subst hn; simpa using hk
  · exact (Nat.log2_lt hn).mpr h
end
@[simp] theorem itU_lst (ds : List D) : itU (.lst ds) = some ds := rfl
@[simp] theorem itU_fl (ds : List D) : itU (.fl ds) = some ds := rfl
@[simp] theorem itU_tup (ds : List D) : itU (.tup ds) = some ds := rfl
@[simp] theorem itU_kt (ds : List D) : itU (.kt ds) = some ds := rfl
@[simp] theorem itU_str (z : Str) : itU (.str z) = some (signs z) := rfl
@[simp] theorem itemsL_lst (ds : List D) : itemsL (.lst ds) = some ds := rfl
@[simp] theorem itemsS_lst (ds : List D) : itemsS (.lst ds) = some ds := rfl
@[simp] theorem boolsO_map {α : Type} (f : α → Bool) (xs : List α) : boolsO (xs.map fun x => .bl (f x)) = some (xs.map f) := by
  induction xs with
  | nil => rfl
  | cons x xs ih => simp [boolsO, ih]
@[simp] theorem strsO_map (xs : List Str) : strsO (xs.map .str) = some xs := by
  induction xs with
  | nil => rfl
  | cons x xs ih => simp [strsO, ih]
@[simp] theorem lenD_lst (ds : List D) : lenD [.lst ds] = some (.int ds.length) := rfl
theorem lenD_str {z : Str} (h : z.length ≤ sizeLine) : lenD [.str z] = some (.int z.length) := if_pos h
@[simp] theorem inD_sign (c : Nat) (z : Str) : inD (.str ⟨#[c]⟩) (.str z) = some (.bl (decide (c ∈ z.cps.toList))) := rfl
@[simp] theorem niD_sign (c : Nat) (z : Str) : niD (.str ⟨#[c]⟩) (.str z) = some (.bl (!decide (c ∈ z.cps.toList))) := rfl
/-! ### the stream of the law's draws -/
def strmC (a b c : Int) : Cell := .p (.lst [.int a, .int b, .int c])
/-- the cells m0, but in cell j a stream, of at most k draws -/
def Sm (m0 : List Cell) (j k : Nat) (mm : List Cell) : Prop := m0.all flatC = true ∧ j < m0.length ∧ ∃ a b c : Int, mm = m0.set j (strmC a b c) ∧ 0 ≤ c ∧ c ≤ k
theorem Sm.mono {m0 mm : List Cell} {j k k' : Nat} (s : Sm m0 j k mm) (h : k ≤ k') : Sm m0 j k' mm := by
  obtain ⟨h1, h2, a, b, c, h3, h4, h5⟩ := s
  exact ⟨h1, h2, a, b, c, h3, h4, by omega⟩
theorem all_set {m0 : List Cell} {j : Nat} {c : Cell} (h : m0.all flatC = true) (hc : flatC c = true) : (m0.set j c).all flatC = true := by
  rw [List.all_eq_true] at h ⊢
  intro x hx
  rcases List.mem_or_eq_of_mem_set hx with hx | rfl
  · exact h x hx
  · exact hc
theorem Sm.len {m0 mm : List Cell} {j k : Nat} (s : Sm m0 j k mm) : mm.length = m0.length := by
  obtain ⟨h1, h2, a, b, c, rfl, h4, h5⟩ := s
  simp
theorem Sm.flat {m0 mm : List Cell} {j k : Nat} (s : Sm m0 j k mm) : mm.all flatC = true := by
  obtain ⟨h1, h2, a, b, c, rfl, h4, h5⟩ := s
  exact all_set h1 rfl
theorem cutM_all {mm : List Cell} {n : Nat} (h : mm.all flatC = true) (hn : mm.length = n) : cutM n mm = some mm := by
  subst hn
  rw [cutM, List.take_length, if_pos h]
theorem cutM_app {mm r : List Cell} {n : Nat} (h : mm.all flatC = true) (hn : mm.length = n) : cutM n (mm ++ r) = some mm := by
  subst hn
  rw [cutM, List.take_left, if_pos h]
/-! ### texts -/
open TL (tl)
theorem atI_mem {α : Type} {xs : List α} {r : Int} (h0 : 0 ≤ r) (h1 : r < xs.length) : ∃ d, atI xs r = some d ∧ d ∈ xs := by
  have h : r.toNat < xs.length := by omega
  exact ⟨xs[r.toNat], by simp [atI, ixN, h0, h1, h], List.getElem_mem h⟩
theorem mem_joinL {S : List Nat} {c : Nat} : ∀ {ps : List (List Nat)}, c ∈ TL.joinL S ps → c ∈ S ∨ ∃ p ∈ ps, c ∈ p
  | [], h => nomatch h
  | [p], h => .inr ⟨p, List.mem_singleton.mpr rfl, h⟩
  | p :: q :: r, h => by
    rw [TL.joinL, List.mem_append, List.mem_append] at h
    rcases h with h | h | h
    · exact .inr ⟨p, List.mem_cons_self .., h⟩
    · exact .inl h
    · rcases mem_joinL h with h | ⟨x, hx, h⟩
      · exact .inl h
      · exact .inr ⟨x, List.mem_cons_of_mem _ hx, h⟩
theorem tl_tjoin (y : Str) (ps : List Str) : tl (Txt.join y ps) = TL.joinL (tl y) (ps.map tl) := by rw [TL.join_eq, TL.tl_join]
theorem joinL_nil (ps : List (List Nat)) : TL.joinL [] ps = ps.flatten := by
  induction ps with
  | nil => rfl
  | cons p ps ih =>
    cases ps with
    | nil => simp [TL.joinL]
    | cons q r => rw [TL.joinL, ih]; simp
theorem mem_tjoin {y : Str} {c : Nat} {ps : List Str} (h : c ∈ tl (Txt.join y ps)) : c ∈ tl y ∨ ∃ p ∈ ps, c ∈ tl p := by
  rw [tl_tjoin] at h
  rcases mem_joinL h with h | ⟨p, hp, h⟩
  · exact .inl h
  · obtain ⟨q, hq, rfl⟩ := List.mem_map.mp hp
    exact .inr ⟨q, hq, h⟩
theorem len_joinL (S : List Nat) : ∀ ps : List (List Nat), (TL.joinL S ps).length ≤ (ps.map List.length).sum + ps.length * S.length
  | [] => Nat.zero_le _
  | [p] => by simp [TL.joinL]
  | p :: q :: r => by
    have := len_joinL S (q :: r)
    rw [TL.joinL]
    simp only [List.length_append, List.map_cons, List.sum_cons, List.length_cons] at this ⊢
    rw [Nat.add_mul]
    omega
theorem len_tjoin (y : Str) (ps : List Str) : (Txt.join y ps).length ≤ sumLen ps + ps.length * y.length := by
  have := len_joinL (tl y) (ps.map tl)
  rw [TL.len_tl, tl_tjoin, TL.len_tl y]
  simpa [sumLen, Function.comp_def, TL.len_tl] using this
theorem sumLen_le {ps : List Str} {n : Nat} (h : ∀ p ∈ ps, p.length ≤ n) : sumLen ps ≤ ps.length * n := by
  induction ps with
  | nil => exact Nat.zero_le _
  | cons p ps ih =>
    have h1 := ih fun q hq => h q (List.mem_cons_of_mem _ hq)
    have h2 := h p (List.mem_cons_self ..)
    simp only [sumLen, List.map_cons, List.sum_cons, List.length_cons] at h1 ⊢
    rw [Nat.add_mul]
    omega
/-- data that are texts of a kind -/
theorem strs_of {ds : List D} {P : Str → Prop} (h : ∀ d ∈ ds, ∃ s, d = .str s ∧ P s) : ∃ ss : List Str, ds = ss.map D.str ∧ ∀ s ∈ ss, P s := by
  induction ds with
  | nil => exact ⟨[], rfl, fun _ h => nomatch h⟩
  | cons d ds ih =>
    obtain ⟨s, rfl, hs⟩ := h d (List.mem_cons_self ..)
    obtain ⟨ss, rfl, hss⟩ := ih fun e he => h e (List.mem_cons_of_mem _ he)
    exact ⟨s :: ss, rfl, fun x hx => by
      rcases List.mem_cons.mp hx with rfl | hx
      · exact hs
      · exact hss x hx⟩
theorem joinD_strs {a : Str} {ss : List Str} (h : sumLen ss + ss.length * a.length ≤ 16777216) : joinD (.str a) (.lst (ss.map D.str)) = some (.str (Txt.join a ss)) := by
  simp [joinD, h]
theorem okDs_strs {ss : List Str} (h : ∀ s ∈ ss, okS s = true) : okDs (ss.map D.str) = true ∧ depDs (ss.map D.str) = 0 := by
  induction ss with
  | nil => exact ⟨rfl, rfl⟩
  | cons s ss ih =>
    obtain ⟨h1, h2⟩ := ih fun x hx => h x (List.mem_cons_of_mem _ hx)
    have h3 := h s (List.mem_cons_self ..)
    constructor
    · simp [okDs, okD, h3, h1]
    · simp [depDs, depD, h2]
theorem eqOk_strs {ss : List Str} (h : ∀ s ∈ ss, okS s = true) : eqOk (.lst (ss.map D.str)) = true := by
  obtain ⟨h1, h2⟩ := okDs_strs h
  simp [eqOk, okD, depD, h1, h2]
theorem eqD_strs {ss tt : List Str} (h1 : ∀ s ∈ ss, okS s = true) (h2 : ∀ s ∈ tt, okS s = true) : eqD (.lst (ss.map D.str)) (.lst (tt.map D.str)) = some (.bl (decide (ss = tt))) := by
  rw [eqD]
  · rw [eqOk_strs h1, eqOk_strs h2]
    simp
  all_goals simp
theorem cut_take (ns : List Int) (k : Nat) : cutD (ns.map D.int) none (some (k : Int)) = (ns.take k).map D.int := by
  have : ¬ ((k : Int) < 0) := by omega
  simp [cutD, HT.sIx, this, List.map_take, List.take_eq_take_iff]
theorem Sm.start {mm : List Cell} (h : mm.all flatC = true) (a b : Int) : Sm (mm ++ [.p (.lst [.int a, .int b, .int 0])]) mm.length 0 (mm ++ [.p (.lst [.int a, .int b, .int 0])]) :=
  ⟨by simpa [flatC] using h, by simp, a, b, 0, by simp [strmC], by decide, by decide⟩
end S

namespace S
open PySem PySem.Spec L2
open G (Ex Gr ex_l ex_t ExnAt exx exx_ok)
/-! ### fields of instances, of exceptions -/
/-- (class, field) told: no class has the name -/
structure FldOk (K : PySem.W.Frag) (to tx : List (String × String)) : Prop where
  ob : ∀ n f C, (n, f) ∈ to → clsA K n = some C → Cls K C ∧ NoAttr K C (Str.ofString f)
  xn : ∀ n f C, (n, f) ∈ tx → clsA K n = some C → XfC K C ∧ PySem.W.findIn K (.ref C) (Str.ofString f) = some none
def fldD (to tx : List (String × String)) (f : String) : D → Option D
  | .obj n ns ds => if (n, f) ∈ to then (ns.zip ds).lookup f else none
  | .exn n ns ds => if (n, f) ∈ tx then (ns.zip ds).lookup f else none
  | _ => none
/-- e.f -/
def sAt (to tx : List (String × String)) (f : String) (e : Sg → Rs U) : Sg → Rs U := fun Γ => (e Γ).bind fun u Γ1 => ofO ((dr Γ1.mm u).bind (fldD to tx f)) Γ1
@[simp ↓] theorem sAt_ev (to tx : List (String × String)) (f : String) (e : Sg → Rs U) (Γ : Sg) : sAt to tx f e Γ = (e Γ).bind fun u Γ1 => ofO ((dr Γ1.mm u).bind (fldD to tx f)) Γ1 := rfl
def fNs (f : String) : List String → List String
  | n :: ns => if n = f then n :: ns else n :: fNs f ns
  | [] => [f]
def fPut {α : Type} (f : String) (y : α) : List String → List α → List α
  | n :: ns, x :: xs => if n = f then y :: xs else x :: fPut f y ns xs
  | _, _ => [y]
/-- self.f = e -/
def sSetF (to : List (String × String)) (f : String) (e o : Sg → Rs U) : Sg → Rs Fl := fun Γ => (e Γ).bind fun w Γ1 => (o Γ1).bind fun u Γ2 => match u with
  | .lc j => (match Γ2.mm[j]? with
    | some (.p (.obj n ns ds)) => (match pu w with
      | some d => if (n, f) ∈ to ∧ ns.length < 1000 then .ok .nx ⟨Γ2.sl, Γ2.mm.set j (.p (.obj n (fNs f ns) (fPut f d ns ds)))⟩ else .st
      | none => .st)
    | _ => .st)
  | _ => .st
@[simp ↓] theorem sSetF_ev (to : List (String × String)) (f : String) (e o : Sg → Rs U) (Γ : Sg) : sSetF to f e o Γ = (e Γ).bind fun w Γ1 => (o Γ1).bind fun u Γ2 => match u with
  | .lc j => (match Γ2.mm[j]? with
    | some (.p (.obj n ns ds)) => (match pu w with
      | some d => if (n, f) ∈ to ∧ ns.length < 1000 then .ok .nx ⟨Γ2.sl, Γ2.mm.set j (.p (.obj n (fNs f ns) (fPut f d ns ds)))⟩ else .st
      | none => .st)
    | _ => .st)
  | _ => .st := rfl
theorem fPut_len {f : String} {α : Type} {y : α} : ∀ {ns : List String} {vs : List α}, ns.length = vs.length → (fNs f ns).length = (fPut f y ns vs).length
  | [], [], _ => rfl
  | [], _ :: _, h => by cases h
  | _ :: _, [], h => by cases h
  | n :: ns, v :: vs, h => by
    unfold fNs fPut
    split
    · simpa using h
    · simpa using fPut_len (f := f) (y := y) (ns := ns) (vs := vs) (by simpa using h)
theorem putF_zip {f : String} {y : V} : ∀ {ns : List String} {vs : List V}, ns.length = vs.length → putF (Str.ofString f) y ((sN ns).zip vs) = (sN (fNs f ns)).zip (fPut f y ns vs)
  | [], [], _ => rfl
  | [], _ :: _, h => by cases h
  | _ :: _, [], h => by cases h
  | n :: ns, v :: vs, h => by
    have ih := putF_zip (f := f) (y := y) (ns := ns) (vs := vs) (by simpa using h)
    show (if Str.ofString n = Str.ofString f then (Str.ofString n, y) :: (sN ns).zip vs else (Str.ofString n, v) :: putF (Str.ofString f) y ((sN ns).zip vs)) = _
    unfold fNs fPut
    by_cases e : n = f
    · rw [if_pos (by rw [e]), if_pos e, if_pos e]
      rfl
    · rw [if_neg (fun z => e (ofS_inj z)), if_neg e, if_neg e, ih]
      rfl
theorem rps_fPut {K : PySem.W.Frag} {I : Hp} {v : V} {d : D} (r : Rp K I v d) {f : String} : ∀ {ns : List String} {vs : List V} {ds : List D}, Rps K I vs ds → Rps K I (fPut f v ns vs) (fPut f d ns ds)
  | [], _, _, _ => by unfold fPut; exact .cons r .nil
  | _ :: _, [], [], .nil => by unfold fPut; exact .cons r .nil
  | n :: ns, _ :: _, _ :: _, .cons q t => by
    unfold fPut
    split
    · exact .cons r t
    · exact .cons q (rps_fPut r t)
section
variable {K : PySem.W.Frag} {W : WX} {to tx : List (String × String)} {te tv : TE} {e o : Sg → Rs U} {f : String}
theorem se_at (F : FldOk K to tx) (h : SE K W te e) : SE K W (G.tAt K te (Str.ofString f)) (sAt to tx f e) := fun Γ σ m A Q p => by
  unfold sAt at p
  cases he : e Γ with
  | st => rw [he] at p; exact p.elim
  | ex x Γ' => exact .inl (h Γ σ m A _ (by rw [he]; rw [he] at p; exact p))
  | ok u Γ1 =>
    rw [he] at p
    dsimp only [Rs.bind] at p
    cases hd : dr Γ1.mm u with
    | none => rw [hd] at p; exact p.elim
    | some d =>
      rw [hd] at p
      dsimp only [Option.bind_some] at p
      cases d <;> first | exact p.elim | skip
      · rename_i n ns ds
        simp only [fldD] at p
        by_cases ht : (n, f) ∈ to
        · rw [if_pos ht] at p
          cases hl : (ns.zip ds).lookup f with
          | none => rw [hl] at p; exact p.elim
          | some d =>
            rw [hl] at p
            refine .inl (h Γ σ m A _ (by
              rw [he]
              intro m1 v nx A1 r
              obtain ⟨a, C, dx, vs, rfl, hc, ha, hn, hr⟩ := (A1.dr r hd).obj A1.ih
              obtain ⟨c1, c2⟩ := F.ob n f C ht hc
              obtain ⟨y, hy, ry⟩ := lk_zip hr hl
              exact ⟨a, C, dx, _, y, rfl, ha, c1, c2, by rw [sN_lookup]; exact hy, p m1 y nx A1 (.d ry)⟩))
        · rw [if_neg ht] at p; exact p.elim
      · rename_i n ns ds
        simp only [fldD] at p
        by_cases ht : (n, f) ∈ tx
        · rw [if_pos ht] at p
          cases hl : (ns.zip ds).lookup f with
          | none => rw [hl] at p; exact p.elim
          | some d =>
            rw [hl] at p
            refine .inr (h Γ σ m A _ (by
              rw [he]
              intro m1 v nx A1 r
              obtain ⟨a, C, dx, vs, rfl, hc, ha, hg, hn, hr⟩ := (A1.dr r hd).exn A1.ih
              obtain ⟨c1, c2⟩ := F.xn n f C ht hc
              obtain ⟨y, hy, ry⟩ := lk_zip hr hl
              exact ⟨a, C, dx, _, y, rfl, c1, c2, ha, hg, by rw [sN_lookup]; exact hy, p m1 y nx A1 (.d ry)⟩))
        · rw [if_neg ht] at p; exact p.elim
theorem ss_setF (F : FldOk K to tx) (h1 : SE K W tv e) (h2 : SE K W te o) : SS K W (sFld K te tv (Str.ofString f)) (sSetF to f e o) := fun Γ σ m De A p => by
  refine h1.stepS A p fun w Γ1 m1 v1 n1 A1 r1 p1 => h2.stepS A1 p1 fun u Γ2 m2 v2 n2 A2 r2 p2 => ?_
  cases r2 with
  | d _ => exact p2.elim
  | @lc j hj =>
    dsimp only at p2
    have r1' := RU.mono n2 r1
    cases q : Γ2.mm[j]? with
    | none => rw [q] at p2; exact p2.elim
    | some c =>
      rw [q] at p2
      cases c with
      | n _ => exact p2.elim
      | gone => exact p2.elim
      | p x =>
        cases x <;> first | exact p2.elim | skip
        rename_i n ns ds
        dsimp only at p2
        cases hw : pu w with
        | none => rw [hw] at p2; exact p2.elim
        | some d =>
          rw [hw] at p2
          dsimp only at p2
          split at p2
          · rename_i ht
            obtain ⟨n0, ob, ho, ro⟩ := A2.mm j _ q
            cases ro with
            | @ins C dx _ _ vs _ c l h =>
              obtain ⟨c1, c2⟩ := F.ob n f C ht.1 c
              obtain ⟨B, nx⟩ := A2.put (o := .ins C dx ((sN (fNs f ns)).zip (fPut f v1 ns vs))) (y := .p (.obj n (fNs f ns) (fPut f d ns ds))) q nofun nofun ⟨n0, _, upd_same, .ins c (fPut_len l) (rps_fPut (RU.pu r1' hw) h)⟩
              refine ⟨_, C, dx, _, rfl, ho, c1, c2, ?_, ?_⟩
              · rw [List.length_zip, List.length_map, ← l, Nat.min_self]
                exact ht.2
              · rw [putF_zip l]
                exact p2 σ _ nx B
          · exact p2.elim
end
end S

namespace S
open PySem PySem.Spec L2
open G (Ex Gr ex_l ex_t ExnAt exx exx_ok)
section
variable {P : Program} {w : World} {K : PySem.W.Frag} {mg : Str → Option Value} {base : Heap} {x qual : Str} {params : Arguments} {stm : List Stmt} {scope : Scope} {dvs : List V} {f : Addr} {fd : FuncData} {N ps : List Str} {k : Nat}
/-- what the walk of a body must show, methods and __init__ too -/
def BodyD (P : Program) (w : World) (K : PySem.W.Frag) (mg : Str → Option Value) (base : Heap) (N : List Str) (qual : Str) (scope : Scope) (stm : List Stmt) (f : Addr) (k : Nat) (body : Sg → Rs Fl) : Prop :=
  ∀ (cdv : Value) (A : Around) (outer : List Env) (s : Shared) (H : Hp) (E : XK), Room k (A.deeper (PyProof.Rows.envOfC qual scope s.heap.objs.size f cdv)) →
      ∃ t, PSs (cxOf (L2.CX P w) P w K mg base N qual scope f cdv A outer s H E) stm t ∧ SS K (fun cls d _ H => E cls d H) t body
theorem okf_P {n : Nat} {F : List D → Rr} {body : Sg → Rs Fl} (F1 : FunD K x qual params stm scope dvs [] f fd) (S : FnScope N ps scope) (hN : N.length = n) (hF : ∀ ds, F ds ≠ .st → F ds = runP n body ds ∧ ds.length = ps.length) (hb : BodyD P w K mg base N qual scope stm f k body) : FnOk P w K mg base (L2.CX P w) (k + 1) f fd ps (spP K F) := by
  refine F1.ok S (fun vs H Q E h => ?_) (fun cdv A outer s H vs Q E hr h => ?_)
  · obtain ⟨I, ds, _, r, h⟩ := h
    rw [r.length]
    refine (hF ds fun z => ?_).2
    rw [z] at h; exact h
  · obtain ⟨I, ds, e, r, h⟩ := h
    obtain ⟨t, ht, hs⟩ := hb cdv A outer s H E hr
    have hne : F ds ≠ .st := fun z => by rw [z] at h; exact h
    rw [(hF ds hne).1] at h
    refine ⟨t, ht, hs ⟨slotsP N.length ds, []⟩ _ ⟨I, H, fun _ => 0⟩ _ (at_start e r) ?_⟩
    rw [hN]
    unfold runP at h
    cases hr : body ⟨slotsP n ds, []⟩ with
    | st => rw [hr] at h; exact h
    | ex x Γ => rw [hr] at h; exact fun σ' m' C dx nx A' hc hd => h m'.I m'.H C dx (nx.gr A'.ih) hc hd
    | ok fl Γ =>
      rw [hr] at h
      cases fl with
      | nx => exact fun σ' m' nx A' => h m'.I m'.H .non (nx.gr A'.ih) .non
      | bk => exact h.elim
      | ct => exact h.elim
      | rt d => exact fun σ' m' v nx A' rv => h m'.I m'.H v (nx.gr A'.ih) rv
      | rf j d =>
        intro σ' m' o nx A' hj n0 ho rv
        have h0 : H (m'.as j) = none := (nx.nw j ⟨_, hj, nofun⟩).resolve_left fun z => absurd (live_lt z) (by simp)
        have g := (nx.gr A'.ih).frz n0 h0 ho
        exact h _ m'.H _ g ((rv.mono (Ex.new n0)).rp upd_same)
theorem okf_F {n : Nat} {F : List D → Rr} {body : Sg → Rs Fl} (F1 : FunD K x qual params stm scope dvs [] f fd) (S : FnScope N ps scope) (hN : N.length = n) (hF : ∀ ds, F ds ≠ .st → F ds = runF n body ds ∧ ds.length = ps.length) (hb : BodyD P w K mg base N qual scope stm f k body) : FnOk P w K mg base (L2.CX P w) (k + 1) f fd ps (spF K F) := by
  refine F1.ok S (fun vs H Q E h => ?_) (fun cdv A outer s H vs Q E hr h => ?_)
  · obtain ⟨I, ds, _, r, h⟩ := h
    rw [r.length]
    refine (hF ds fun z => ?_).2
    rw [z] at h; exact h
  · obtain ⟨I, ds, e, r, h⟩ := h
    obtain ⟨t, ht, hs⟩ := hb cdv A outer s H E hr
    have hne : F ds ≠ .st := fun z => by rw [z] at h; exact h
    rw [(hF ds hne).1] at h
    refine ⟨t, ht, hs ⟨slotsP N.length ds, []⟩ _ ⟨I, H, fun _ => 0⟩ _ (at_start e r) ?_⟩
    rw [hN]
    unfold runF at h
    cases hr : body ⟨slotsP n ds, []⟩ with
    | st => rw [hr] at h; exact h
    | ex x Γ => rw [hr] at h; exact fun σ' m' C dx nx A' hc hd => h m'.I m'.H C dx (nx.gr A'.ih) hc hd
    | ok fl Γ =>
      rw [hr] at h
      cases fl with
      | rf j d =>
        intro σ' m' o nx A' hj n0 ho rv
        have h0 : H (m'.as j) = none := (nx.nw j ⟨_, hj, nofun⟩).resolve_left fun z => absurd (live_lt z) (by simp)
        exact h m'.I m'.H _ o (nx.gr A'.ih) n0 h0 ho rv
      | _ => exact h.elim
theorem okf_B {n : Nat} {F : List U → List Cell → Rb} {body : Sg → Rs Fl} (F1 : FunD K x qual params stm scope dvs [] f fd) (S : FnScope N ps scope) (hN : N.length = n) (hF : ∀ us mm, F us mm ≠ .st → F us mm = runB n body us mm ∧ us.length = ps.length) (hb : BodyD P w K mg base N qual scope stm f k body) : FnOk P w K mg base (L2.CX P w) (k + 1) f fd ps (spB K F) := by
  refine F1.ok S (fun vs H Q E h => ?_) (fun cdv A outer s H vs Q E hr h => ?_)
  · obtain ⟨m, us, mm, _, _, r, h⟩ := h
    rw [r.length]
    refine (hF us mm fun z => ?_).2
    rw [z] at h; exact h
  · obtain ⟨m, us, mm, rfl, c, r, h⟩ := h
    obtain ⟨t, ht, hs⟩ := hb cdv A outer s m.H E hr
    have hne : F us mm ≠ .st := fun z => by rw [z] at h; exact h
    rw [(hF us mm hne).1] at h
    refine ⟨t, ht, hs ⟨slotsU N.length us, mm⟩ _ m _ (at_startU c r) ?_⟩
    rw [hN]
    unfold runB at h
    cases hr : body ⟨slotsU n us, mm⟩ with
    | st => rw [hr] at h; exact h
    | ex x Γ =>
      rw [hr] at h
      dsimp only at h
      cases hc : cutM mm.length Γ.mm with
      | none => rw [hc] at h; exact h.elim
      | some mm' =>
        rw [hc] at h
        intro σ' m' C dx nx A' hcl hd
        obtain ⟨n2, c2⟩ := cut_ok hc nx A'.cs
        exact h m' C dx n2 c2 hcl hd
    | ok fl Γ =>
      rw [hr] at h
      cases fl with
      | nx =>
        dsimp only at h
        cases hc : cutM mm.length Γ.mm with
        | none => rw [hc] at h; exact h.elim
        | some mm' =>
          rw [hc] at h
          intro σ' m' nx A'
          obtain ⟨n2, c2⟩ := cut_ok hc nx A'.cs
          exact h m' .non n2 c2 .non
      | bk => exact h.elim
      | ct => exact h.elim
      | rt d =>
        dsimp only at h
        cases hc : cutM mm.length Γ.mm with
        | none => rw [hc] at h; exact h.elim
        | some mm' =>
          rw [hc] at h
          intro σ' m' v nx A' rv
          obtain ⟨n2, c2⟩ := cut_ok hc nx A'.cs
          exact h m' v n2 c2 rv
      | rf j d => exact h.elim
end
end S

namespace S
open PySem PySem.Spec L2
open G (Ex Gr ex_l ex_t ExnAt exx exx_ok spI spI2 wMix)
/-! ### making an instance -/
structure MkC (P : Program) (w : World) (K : PySem.W.Frag) (mg : Str → Option Value) (base : Heap) (n : String) (k : Nat) (ps : List Str) (dvs : List V) (sp : Sp) : Prop where
  ex : ∃ C f fd ds, clsA K n = some C ∧ mg (Str.ofString n) = some (.ref C) ∧ Mk K C f ∧ FnOk P w K mg base (L2.CX P w) k f fd ps sp ∧ Binds K fd ps ds ∧ Vals dvs ds
def tMkE (K : PySem.W.Frag) (n : String) (sp : Sp) (dvs : List V) (E : L2.St → XK) (t : TA) : TE := fun σ H Q => ∀ C, clsA K n = some C → G.tMakeS C sp dvs E t σ H Q
/-- C(..): a new instance, which may change -/
def sMake (n : String) (dds : List D) (F : List U → List Cell → Rb) (a : Sg → Rs (List U)) : Sg → Rs U := fun Γ => (a Γ).bind fun us Γ1 => match F (.lc Γ1.mm.length :: (us ++ dds.map .d)) (Γ1.mm ++ [.p (.obj n [] [])]) with
  | .st => .st
  | .ok .non mm => .ok (.lc Γ1.mm.length) ⟨Γ1.sl, mm⟩
  | .ok _ _ => .st
  | .ex x mm => .ex x ⟨Γ1.sl, mm⟩
@[simp ↓] theorem sMake_ev (n : String) (dds : List D) (F : List U → List Cell → Rb) (a : Sg → Rs (List U)) (Γ : Sg) : sMake n dds F a Γ = (a Γ).bind fun us Γ1 => match F (.lc Γ1.mm.length :: (us ++ dds.map .d)) (Γ1.mm ++ [.p (.obj n [] [])]) with
  | .st => .st
  | .ok .non mm => .ok (.lc Γ1.mm.length) ⟨Γ1.sl, mm⟩
  | .ok _ _ => .st
  | .ex x mm => .ex x ⟨Γ1.sl, mm⟩ := rfl
section
variable {K : PySem.W.Frag} {W : WX} {ta : TA} {te : TE} {a : Sg → Rs (List U)} {o : Sg → Rs U}
theorem se_make {n : String} {dvs : List V} {dds : List D} {F : List U → List Cell → Rb} (hd : ∀ I, Rps K I dvs dds) (h : SA K W ta a) : SE K W (tMkE K n (spB K F) dvs (WE W) ta) (sMake n dds F a) := fun Γ σ m A Q p C hC => by
  refine h.step A p fun us Γ1 m1 vs n1 A1 r1 p1 => ?_
  intro x dx hx hdx hne
  have g0 : Gr [] m1.I m1.H m1.I (upd m1.H dx (.own x)) := Gr.junk A1.ih hdx
  have hx1 : upd m1.H dx (.own x) x = none := by rw [upd_ne (Ne.symm hne)]; exact hx
  have ni : m1.I x = none := A1.ih.free hx
  obtain ⟨A2, nx2⟩ := (A1.g g0).alloc (p := x) (o := .ins C dx []) (x := .p (.obj n [] [])) hx1 ⟨ni, _, upd_same, .ins (ns := []) (vs := []) hC rfl .nil⟩ nofun
  have nx3 := (Nx.g (as := m1.as) (mm := Γ1.mm) g0).trans nx2
  have hL : Γ1.mm.length < (Γ1.mm ++ [Cell.p (.obj n [] [])]).length := by simp
  have rs := RUs.append (RUs.mono nx3 r1) (RUs.of (n := (Γ1.mm ++ [Cell.p (.obj n [] [])]).length) (as := updA m1.as Γ1.mm.length x) (hd m1.I))
  have r0 : RU K m1.I (updA m1.as Γ1.mm.length x) (Γ1.mm ++ [Cell.p (.obj n [] [])]).length (.ref x) (.lc Γ1.mm.length) := by
    have := RU.lc (K := K) (I := m1.I) (as := updA m1.as Γ1.mm.length x) hL
    rwa [updA_same] at this
  refine ⟨_, _, _, rfl, A2.cs, .cons r0 rs, ?_⟩
  cases hF : F (.lc Γ1.mm.length :: (us ++ dds.map .d)) (Γ1.mm ++ [.p (.obj n [] [])]) with
  | st => rw [hF] at p1; exact p1.elim
  | ok d mm' =>
    rw [hF] at p1
    cases d <;> first | exact p1.elim | skip
    intro m' v nx c rv
    cases rv
    refine ⟨rfl, ?_⟩
    have e : m'.as Γ1.mm.length = x := by rw [nx.as _ hL]; exact updA_same
    have q := p1 m' (.ref (m'.as Γ1.mm.length)) (nx3.trans nx) (Cs.at_ A1 c (nx3.trans nx)) (.lc (Nat.lt_of_lt_of_le hL nx.le))
    rwa [e] at q
  | ex e mm' =>
    rw [hF] at p1
    intro m' C' dx' nx c hc hdd
    exact p1 m' C' dx' (nx3.trans nx) (Cs.at_ A1 c (nx3.trans nx)) hc (hdd.back nx3.th)
/-! ### methods -/
theorem lk_none {β : Type} {m : String} : ∀ {ns : List String} {vs : List β}, m ∉ ns → (ns.zip vs).lookup m = none
  | [], _, _ => by simp
  | _ :: _, [], _ => by simp
  | n :: ns, v :: vs, h => by
    have e : (m == n) = false := by simpa using fun z : m = n => h (by rw [z]; exact List.mem_cons_self)
    rw [List.zip_cons_cons, List.lookup, e]
    exact lk_none fun z => h (List.mem_cons_of_mem _ z)
def sMth (m : String) (tbl : List (String × (List D → Rr))) (o : Sg → Rs U) (a : Sg → Rs (List U)) : Sg → Rs U := fun Γ => (o Γ).bind fun u Γ1 => match pu u with
  | some (.obj n ns ds) => if m ∈ ns then .st else (match tbl.lookup n with
    | some F => (a Γ1).bind fun us Γ2 => (match pus us with
      | some es => ofR (F (.obj n ns ds :: es)) Γ2
      | none => .st)
    | none => .st)
  | _ => .st
@[simp ↓] theorem sMth_ev (m : String) (tbl : List (String × (List D → Rr))) (o : Sg → Rs U) (a : Sg → Rs (List U)) (Γ : Sg) : sMth m tbl o a Γ = (o Γ).bind fun u Γ1 => match pu u with
  | some (.obj n ns ds) => if m ∈ ns then .st else (match tbl.lookup n with
    | some F => (a Γ1).bind fun us Γ2 => (match pus us with
      | some es => ofR (F (.obj n ns ds :: es)) Γ2
      | none => .st)
    | none => .st)
  | _ => .st := rfl
/-- the same, self may change or may be a cell -/
def sMthB (m : String) (tbl : List (String × (List U → List Cell → Rb))) (o : Sg → Rs U) (a : Sg → Rs (List U)) : Sg → Rs U := fun Γ => (o Γ).bind fun u Γ1 => match dr Γ1.mm u with
  | some (.obj n ns ds) => if m ∈ ns then .st else (match tbl.lookup n with
    | some F => (a Γ1).bind fun us Γ2 => (match F (u :: us) Γ2.mm with
      | .st => .st
      | .ok d mm => .ok (.d d) ⟨Γ2.sl, mm⟩
      | .ex x mm => .ex x ⟨Γ2.sl, mm⟩)
    | none => .st)
  | _ => .st
@[simp ↓] theorem sMthB_ev (m : String) (tbl : List (String × (List U → List Cell → Rb))) (o : Sg → Rs U) (a : Sg → Rs (List U)) (Γ : Sg) : sMthB m tbl o a Γ = (o Γ).bind fun u Γ1 => match dr Γ1.mm u with
  | some (.obj n ns ds) => if m ∈ ns then .st else (match tbl.lookup n with
    | some F => (a Γ1).bind fun us Γ2 => (match F (u :: us) Γ2.mm with
      | .st => .st
      | .ok d mm => .ok (.d d) ⟨Γ2.sl, mm⟩
      | .ex x mm => .ex x ⟨Γ2.sl, mm⟩)
    | none => .st)
  | _ => .st := rfl
structure MtC (P : Program) (w : World) (K : PySem.W.Frag) (mg : Str → Option Value) (base : Heap) (n m : String) (k : Nat) (ps : List Str) (sp : Sp) : Prop where
  ex : ∃ C f fd, clsA K n = some C ∧ Cls K C ∧ Meth K C (Str.ofString m) f ∧ FnOk P w K mg base (L2.CX P w) k f fd ps sp ∧ Binds K fd ps []
def tMthE (K : PySem.W.Frag) (m : String) {α : Type} (sp : α → Sp) (tbl : List (String × α)) (E : L2.St → XK) (te : TE) (t : TA) : TE := fun σ H Q => ∃ n F C, tbl.lookup n = some F ∧ clsA K n = some C ∧ G.tMethS C (Str.ofString m) (sp F) E te t σ H Q
theorem se_mth {m : String} {tbl : List (String × (List D → Rr))} (h0 : SE K W te o) (h : SA K W ta a) (hn : ∃ n F C, tbl.lookup n = some F ∧ clsA K n = some C) (hc : ∀ n F, tbl.lookup n = some F → ∃ C, clsA K n = some C) :
    SE K W (tMthE K m (spP K) tbl (WE W) te ta) (sMth m tbl o a) := fun Γ σ m1 A Q p => by
  unfold sMth at p
  cases he : o Γ with
  | st => rw [he] at p; exact p.elim
  | ex x Γ' =>
    obtain ⟨n, F, C, h1, h2⟩ := hn
    exact ⟨n, F, C, h1, h2, h0 Γ σ m1 A _ (by rw [he]; rw [he] at p; exact p)⟩
  | ok u Γ1 =>
    rw [he] at p
    dsimp only [Rs.bind] at p
    cases hd : pu u with
    | none => rw [hd] at p; exact p.elim
    | some d =>
      rw [hd] at p
      cases d <;> first | exact p.elim | skip
      rename_i n ns ds
      dsimp only at p
      by_cases hm : m ∈ ns
      · rw [if_pos hm] at p; exact p.elim
      · rw [if_neg hm] at p
        cases hl : tbl.lookup n with
        | none => rw [hl] at p; exact p.elim
        | some F =>
          rw [hl] at p
          obtain ⟨C, hC⟩ := hc n F hl
          refine ⟨n, F, C, hl, hC, h0 Γ σ m1 A _ ?_⟩
          rw [he]
          intro m2 v nx A2 r
          have rv := RU.pu r hd
          cases rv with
          | @obj b C' dx _ _ vs _ c ha l hr =>
            rw [hC] at c
            cases c
            refine ⟨b, dx, _, rfl, A2.ih _ _ ha, ?_, ?_⟩
            · rw [sN_lookup]; exact S.lk_none hm
            · have p2 := Post.tr p nx
              refine h.step A2 p2 fun us Γ3 m3 ws n3 A3 r3 p3 => ?_
              cases hu : pus us with
              | none => rw [hu] at p3; exact p3.elim
              | some es =>
                rw [hu] at p3
                exact go_P A3 (.cons (.obj hC (n3.ex _ _ ha) l (hr.mono n3.ex)) (RUs.pu r3 hu)) p3
theorem se_mthB {m : String} {tbl : List (String × (List U → List Cell → Rb))} (h0 : SE K W te o) (h : SA K W ta a) (hn : ∃ n F C, tbl.lookup n = some F ∧ clsA K n = some C) (hc : ∀ n F, tbl.lookup n = some F → ∃ C, clsA K n = some C) :
    SE K W (tMthE K m (spB K) tbl (WE W) te ta) (sMthB m tbl o a) := fun Γ σ m1 A Q p => by
  unfold sMthB at p
  cases he : o Γ with
  | st => rw [he] at p; exact p.elim
  | ex x Γ' =>
    obtain ⟨n, F, C, h1, h2⟩ := hn
    exact ⟨n, F, C, h1, h2, h0 Γ σ m1 A _ (by rw [he]; rw [he] at p; exact p)⟩
  | ok u Γ1 =>
    rw [he] at p
    dsimp only [Rs.bind] at p
    cases hd : dr Γ1.mm u with
    | none => rw [hd] at p; exact p.elim
    | some d =>
      rw [hd] at p
      cases d <;> first | exact p.elim | skip
      rename_i n ns ds
      dsimp only at p
      by_cases hm : m ∈ ns
      · rw [if_pos hm] at p; exact p.elim
      · rw [if_neg hm] at p
        cases hl : tbl.lookup n with
        | none => rw [hl] at p; exact p.elim
        | some F =>
          rw [hl] at p
          obtain ⟨C, hC⟩ := hc n F hl
          refine ⟨n, F, C, hl, hC, h0 Γ σ m1 A _ ?_⟩
          rw [he]
          intro m2 v nx A2 r
          obtain ⟨b, C', dx, vs, rfl, c, ha, l, hr⟩ := (A2.dr r hd).obj A2.ih
          rw [hC] at c
          cases c
          refine ⟨b, dx, _, rfl, ha, ?_, ?_⟩
          · rw [sN_lookup]; exact S.lk_none hm
          · have p2 := Post.tr p nx
            refine h.step A2 p2 fun us Γ3 m3 ws n3 A3 r3 p3 => ?_
            refine ⟨m3, u :: us, Γ3.mm, rfl, A3.cs, .cons (RU.mono n3 r) r3, ?_⟩
            cases hF : F (u :: us) Γ3.mm with
            | st => rw [hF] at p3; exact p3
            | ok d mm' => rw [hF] at p3; exact fun m' v nx c rv => p3 m' v nx (Cs.at_ A3 c nx) (.d rv)
            | ex x mm' => rw [hF] at p3; exact fun m' C dx nx c hc hd => p3 m' C dx nx (Cs.at_ A3 c nx) hc hd
end
section
variable {X : Cx} {P : Program} {w : World} (K : PySem.W.Frag) {mg : Str → Option Value} {base : Heap} {n m : String} {j k : Nat} {ps : List Str} {sp : Sp} {p apos pos : Pos} {o e : Expr} {es : List Expr} {te : TE} {t : TA} {W : WX} {dvs : List V} {α : Type} {spf : α → Sp} {tbl : List (String × α)}
theorem k_mk (c : MkC P w K mg base n k ps dvs sp) (hr : Room j X.A) (hk : k + 1 ≤ j) (tk : Takes X W) (hg : Gl X (Str.ofString n)) (ha : PA X (e :: es) t) (hdb : (Str.ofString n == ("__debug__" : Str)) = false := by decide)
    (he : starEach (e :: es) X.env = (false, eval e X.env) :: starEach es X.env := by rfl) (hpl : (backTo pos (starEach es X.env)).any (·.1) = false := by rfl)
    (hX : X.prog = P ∧ X.w = w ∧ X.K = K ∧ X.mg = mg ∧ X.base = base := by exact ⟨rfl, rfl, rfl, rfl, rfl⟩) :
    PE X (.Call (.Name (Str.ofString n) p) (e :: es) [] pos) (tMkE K n sp dvs (WE W) t) := by
  obtain ⟨rfl, rfl, rfl, rfl, rfl⟩ := hX
  obtain ⟨C, f, fd, ds, hC, hm, M, F, b, hv⟩ := c.ex
  exact ⟨fun pins s σ H Q I h => (G.pe_makeS M F (hr.mono hk) hg hm b hv (passAt tk) ha hdb he hpl).run pins s σ H Q I (h C hC)⟩
def MtT (P : Program) (w : World) (K : PySem.W.Frag) (mg : Str → Option Value) (base : Heap) (m : String) {α : Type} (sp : α → Sp) (tbl : List (String × α)) (j : Nat) : Prop := ∀ n F, tbl.lookup n = some F → ∃ k ps, k ≤ j ∧ MtC P w K mg base n m k ps (sp F)
theorem MtT.cls (c : MtT P w K mg base m spf tbl k) : ∀ n F, tbl.lookup n = some F → ∃ C, clsA K n = some C := fun n F h => by
  obtain ⟨_, _, _, ⟨C, _, _, hC, _⟩⟩ := c n F h
  exact ⟨C, hC⟩
theorem k_mth {pl : Sem Bool} (c : MtT P w K mg base m spf tbl k) (hr : Room j X.A) (hk : k ≤ j) (tk : Takes X W) (ho : PE X o te) (ha : PA X (e :: es) t)
    (hst : starEach (e :: es) X.env = (false, eval e X.env) :: starEach es X.env := by rfl) (hpl : (backTo pos (starEach es X.env)).any (·.1) = false := by rfl)
    (ht : eval (.Call (.Attribute o (Str.ofString m) apos) (e :: es) [] pos) X.env = (do
      let ov ← eval o X.env
      standAt apos.atName
      let (f, first) ← holding [ov] (getMethod ov (Str.ofString m) pl)
      callWith pos f first (backTo pos (starEach (e :: es) X.env)) (backToKw pos (keywordEach [] X.env))) := by rfl)
    (hX : X.prog = P ∧ X.w = w ∧ X.K = K ∧ X.mg = mg ∧ X.base = base := by exact ⟨rfl, rfl, rfl, rfl, rfl⟩) :
    PE X (.Call (.Attribute o (Str.ofString m) apos) (e :: es) [] pos) (tMthE K m spf tbl (WE W) te t) := by
  obtain ⟨rfl, rfl, rfl, rfl, rfl⟩ := hX
  refine ⟨fun pins s σ H Q I h => ?_⟩
  obtain ⟨n, F, C, hl, hC, h⟩ := h
  obtain ⟨k', ps, hk', ⟨C', f, fd, hC', cl, M, Fn, b⟩⟩ := c n F hl
  rw [hC] at hC'
  cases hC'
  exact (G.pe_methS ho cl M Fn (hr.mono (Nat.le_trans hk' hk)) b (passAt tk) ha hst hpl ht).run pins s σ H Q I h
theorem k_mth0 {pl : Sem Bool} (c : MtT P w K mg base m spf tbl k) (hr : Room j X.A) (hk : k ≤ j) (tk : Takes X W) (ho : PE X o te)
    (ht : eval (.Call (.Attribute o (Str.ofString m) apos) [] [] pos) X.env = (do
      let ov ← eval o X.env
      standAt apos.atName
      let (f, first) ← holding [ov] (getMethod ov (Str.ofString m) pl)
      callWith pos f first (backTo pos (starEach [] X.env)) (backToKw pos (keywordEach [] X.env))) := by rfl)
    (hX : X.prog = P ∧ X.w = w ∧ X.K = K ∧ X.mg = mg ∧ X.base = base := by exact ⟨rfl, rfl, rfl, rfl, rfl⟩) :
    PE X (.Call (.Attribute o (Str.ofString m) apos) [] [] pos) (tMthE K m spf tbl (WE W) te tNil) := by
  obtain ⟨rfl, rfl, rfl, rfl, rfl⟩ := hX
  refine ⟨fun pins s σ H Q I h => ?_⟩
  obtain ⟨n, F, C, hl, hC, h⟩ := h
  obtain ⟨k', ps, hk', ⟨C', f, fd, hC', cl, M, Fn, b⟩⟩ := c n F hl
  rw [hC] at hC'
  cases hC'
  exact (G.pe_methS0 ho cl M Fn (hr.mono (Nat.le_trans hk' hk)) b (passAt tk) ht).run pins s σ H Q I h
end
end S

namespace S
open PySem PySem.Spec L2
open G (Ex Gr ex_l ex_t ExnAt exx exx_ok spI spI2 wMix HdsMix)
/-! ### raise -/
structure XcC (P : Program) (w : World) (K : PySem.W.Frag) (mg : Str → Option Value) (base : Heap) (n : String) (ps : List Str) (spf : Addr → Sp) : Prop where
  ex : ∃ C fI fd, clsA K n = some C ∧ mg (Str.ofString n) = some (.ref C) ∧ OexC K C ∧ PySem.W.findIn K (.ref C) "__init__" = some (some (.ref fI)) ∧ PySem.W.typeIn K (.ref fI) = some (.type "function") ∧ FnOk P w K mg base CX0 1 fI fd ps (spf C) ∧ Binds K fd ps []
def tRz (K : PySem.W.Frag) (n : String) (spf : Addr → Sp) (ta : TA) : L2.St → Hp → XK → Prop := fun σ H E => ∀ C, clsA K n = some C → tMkO C (spf C) [] ta σ H E
section
variable {X : Cx} {P : Program} {w : World} (K : PySem.W.Frag) {mg : Str → Option Value} {base : Heap} {n : String} {j : Nat} {ps : List Str} {spf : Addr → Sp} {p pos : Pos} {e : Expr} {es : List Expr} {t : TA}
theorem k_rz (c : XcC P w K mg base n ps spf) (hr : Room j X.A) (hk : 2 ≤ j) (hg : Gl X (Str.ofString n)) (ha : PA X (e :: es) t) (hdb : (Str.ofString n == ("__debug__" : Str)) = false := by decide)
    (he : starEach (e :: es) X.env = (false, eval e X.env) :: starEach es X.env := by rfl) (hpl : (backTo pos (starEach es X.env)).any (·.1) = false := by rfl) (hx : Passes CX0 X E0 := by exact pass0)
    (hX : X.prog = P ∧ X.w = w ∧ X.K = K ∧ X.mg = mg ∧ X.base = base := by exact ⟨rfl, rfl, rfl, rfl, rfl⟩) :
    PMk X (.Call (.Name (Str.ofString n) p) (e :: es) [] pos) (tRz K n spf t) := by
  obtain ⟨rfl, rfl, rfl, rfl, rfl⟩ := hX
  obtain ⟨C, fI, fd, hC, hm, oc, iC, tI, F, b⟩ := c.ex
  exact fun pins s σ H E I h => pmk_oex (ds := []) oc iC tI F (hr.mono hk) b .nil hx hg hm ha hdb he hpl pins s σ H E I (h C hC)
end
/-- raise C(..): names and data in the order in which the dict has them -/
def sRz (n : String) (fs : List String) (a : Sg → Rs (List U)) : Sg → Rs Fl := fun Γ => (a Γ).bind fun us Γ1 => match pus us with
  | some ds => if ds.length = fs.length then .ex ⟨n, fs.reverse, ds.reverse⟩ Γ1 else .st
  | none => .st
@[simp ↓] theorem sRz_ev (n : String) (fs : List String) (a : Sg → Rs (List U)) (Γ : Sg) : sRz n fs a Γ = (a Γ).bind fun us Γ1 => match pus us with
  | some ds => if ds.length = fs.length then .ex ⟨n, fs.reverse, ds.reverse⟩ Γ1 else .st
  | none => .st := rfl
section
variable {K : PySem.W.Frag} {W : WX} {ta : TA} {a : Sg → Rs (List U)} {n f g : String}
theorem ss_rz1 (h : SA K W ta a) : SS K W (fun _ σ H => tRz K n (fun C => spI C (Str.ofString f)) ta σ H fun cls d H' => W cls d σ H') (sRz n [f] a) := fun Γ σ m De A p C hC => by
  refine h.stepS A p fun us Γ1 m1 vs n1 A1 r1 p1 => ?_
  cases hu : pus us with
  | none => rw [hu] at p1; exact p1.elim
  | some ds =>
    rw [hu] at p1
    have r := RUs.pu r1 hu
    match ds, r, p1 with
    | [], _, p1 => exact p1.elim
    | _ :: _ :: _, _, p1 => exact p1.elim
    | [d], .cons (v := y) r .nil, p1 =>
      refine ⟨Nat.le_of_ble_eq_true rfl, fun x hn => ⟨x, y, rfl, upd_same, fun dx h1 h2 => ⟨rfl, dx, [(Str.ofString f, y)], upd_same, by rw [upd_ne h2]; exact upd_same, by rw [upd_ne h2] at h1; exact h1, ?_⟩⟩⟩
      rw [upd_ne h2] at h1
      have ee : upd (del (upd (upd (upd m1.H x (exo x C none)) dx (exd dx [(Str.ofString f, y)])) x (exo x C (some dx))) x) dx (.xd [(Str.ofString f, y)]) = upd m1.H dx (.xd [(Str.ofString f, y)]) := by
        funext b
        by_cases hb : b = dx
        · subst hb; rw [upd_same, upd_same]
        · rw [upd_ne hb, upd_ne hb]
          by_cases hx : b = x
          · subst hx; rw [del_same, hn]
          · rw [del_ne hx, upd_ne hx, upd_ne hb, upd_ne hx]
      rw [ee]
      have gg : Gr [] m1.I m1.H m1.I (upd m1.H dx (.xd [(Str.ofString f, y)])) := Gr.junk A1.ih h1
      exact p1 σ ⟨m1.I, _, m1.as⟩ C dx (.g gg) (A1.g gg) hC ⟨⟨[y], upd_same, rfl, .cons r .nil⟩, A1.ih.free h1, h1⟩
theorem ss_rz2 (h : SA K W ta a) : SS K W (fun _ σ H => tRz K n (fun C => spI2 C (Str.ofString f) (Str.ofString g)) ta σ H fun cls d H' => W cls d σ H') (sRz n [f, g] a) := fun Γ σ m De A p C hC => by
  refine h.stepS A p fun us Γ1 m1 vs n1 A1 r1 p1 => ?_
  cases hu : pus us with
  | none => rw [hu] at p1; exact p1.elim
  | some ds =>
    rw [hu] at p1
    have r := RUs.pu r1 hu
    match ds, r, p1 with
    | [], _, p1 => exact p1.elim
    | [_], _, p1 => exact p1.elim
    | _ :: _ :: _ :: _, _, p1 => exact p1.elim
    | [d, d2], .cons (v := y) r (.cons (v := z) rz .nil), p1 =>
      refine ⟨Nat.le_of_ble_eq_true rfl, fun x hn => ⟨x, y, z, rfl, upd_same, fun dx h1 h2 => ⟨rfl, dx, [(Str.ofString g, z), (Str.ofString f, y)], upd_same, by rw [upd_ne h2]; exact upd_same, by rw [upd_ne h2] at h1; exact h1, ?_⟩⟩⟩
      rw [upd_ne h2] at h1
      have ee : upd (del (upd (upd (upd m1.H x (exo x C none)) dx (exd dx [(Str.ofString g, z), (Str.ofString f, y)])) x (exo x C (some dx))) x) dx (.xd [(Str.ofString g, z), (Str.ofString f, y)]) = upd m1.H dx (.xd [(Str.ofString g, z), (Str.ofString f, y)]) := by
        funext b
        by_cases hb : b = dx
        · subst hb; rw [upd_same, upd_same]
        · rw [upd_ne hb, upd_ne hb]
          by_cases hx : b = x
          · subst hx; rw [del_same, hn]
          · rw [del_ne hx, upd_ne hx, upd_ne hb, upd_ne hx]
      rw [ee]
      have gg : Gr [] m1.I m1.H m1.I (upd m1.H dx (.xd [(Str.ofString g, z), (Str.ofString f, y)])) := Gr.junk A1.ih h1
      exact p1 σ ⟨m1.I, _, m1.as⟩ C dx (.g gg) (A1.g gg) hC ⟨⟨[z, y], upd_same, rfl, .cons rz (.cons r .nil)⟩, A1.ih.free h1, h1⟩
end
/-! ### try -/
def unR (i : Nat) : Rs Fl → Rs Fl
  | .ok .nx Γ => .ok .nx ⟨Γ.sl.set i none, Γ.mm⟩
  | .ok .bk Γ => .ok .bk ⟨Γ.sl.set i none, Γ.mm⟩
  | .ok .ct Γ => .ok .ct ⟨Γ.sl.set i none, Γ.mm⟩
  | r => r
/-- a clause from which nothing leaves -/
def noX : Rs Fl → Rs Fl
  | .ex _ _ => .st
  | r => r
def hsL (exm : String → String → Option Bool) : List (String × Option Nat × (Sg → Rs Fl)) → Xn → Sg → Rs Fl
  | [], x, Γ => .ex x Γ
  | (n, none, b) :: r, x, Γ => match exm x.C n with
    | some true => noX (b Γ)
    | some false => hsL exm r x Γ
    | none => .st
  | (n, some i, b) :: r, x, Γ => match exm x.C n with
    | some true => unR i (noX (b ⟨Γ.sl.set i (some (.d (.exn x.C x.ns x.ds))), Γ.mm⟩))
    | some false => hsL exm r x Γ
    | none => .st
def sTry (exm : String → String → Option Bool) (body : Sg → Rs Fl) (hs : List (String × Option Nat × (Sg → Rs Fl))) : Sg → Rs Fl := fun Γ => match body Γ with
  | .ex x Γ1 => hsL exm hs x Γ1
  | r => r
@[simp ↓] theorem sTry_ev (exm : String → String → Option Bool) (body : Sg → Rs Fl) (hs : List (String × Option Nat × (Sg → Rs Fl))) (Γ : Sg) : sTry exm body hs Γ = match body Γ with
  | .ex x Γ1 => hsL exm hs x Γ1
  | r => r := rfl
/-- class n is what the clause has, and exm tells of it -/
structure ExmC (K : PySem.W.Frag) (exm : String → String → Option Bool) (n : String) (v : Value) : Prop where
  one : ∀ x C b, exm x n = some b → clsA K x = some C → PySem.W.exmOne K (.ref C) v = some b
inductive Hs (K : PySem.W.Frag) (W : WX) (exm : String → String → Option Bool) : List (Value × Option Nat × TS) → List (String × Option Nat × (Sg → Rs Fl)) → Prop
  | nil : Hs K W exm [] []
  | cons {v : Value} {i : Option Nat} {ts : TS} {n : String} {b : Sg → Rs Fl} {l : List (Value × Option Nat × TS)} {r : List (String × Option Nat × (Sg → Rs Fl))} : ExmC K exm n v → SS K (fun _ _ _ _ => False) ts b → Hs K W exm l r → Hs K W exm ((v, i, ts) :: l) ((n, i, b) :: r)
section
variable {K : PySem.W.Frag} {W : WX} {exm : String → String → Option Bool}
theorem At.ext {σ : L2.St} {m : Wd} {Γ : Sg} (A : At K σ m Γ) {dx : Addr} {o : HO} (ni : m.I dx = none) (ho : m.H dx = some o) (hc : ∀ j, live Γ.mm j → m.as j ≠ dx) : At K σ ⟨upd m.I dx o, m.H, m.as⟩ Γ := by
  have e1 : Ex m.I (upd m.I dx o) := Ex.new ni
  refine ⟨fun b u q => ?_, fun i u h => ?_, fun j c h => ?_, A.ne, A.len⟩
  · have q : upd m.I dx o b = some u := q
    show m.H b = some u
    by_cases z : b = dx
    · subst z; rw [upd_same] at q; rw [← q]; exact ho
    · rw [upd_ne z] at q; exact A.ih b u q
  · obtain ⟨v, h1, h2⟩ := A.sl i u h
    exact ⟨v, h1, h2.up e1 (fun _ _ => rfl) (Nat.le_refl _)⟩
  · have q := A.mm j c h
    cases c with
    | p d =>
      obtain ⟨a1, o1, a2, a3⟩ := q
      exact ⟨by show upd m.I dx o (m.as j) = none; rw [upd_ne (hc j ⟨_, h, nofun⟩)]; exact a1, o1, a2, a3.mono e1⟩
    | n us =>
      obtain ⟨a1, o1, a2, a3⟩ := q
      exact ⟨by show upd m.I dx o (m.as j) = none; rw [upd_ne (hc j ⟨_, h, nofun⟩)]; exact a1, o1, a2, a3.up e1 (fun _ _ => rfl) (Nat.le_refl _)⟩
    | gone => trivial
theorem Nx.ext {m m' : Wd} {mm mm' : List Cell} (x : Nx m mm m' mm') {dx : Addr} {o : HO} (ni : m'.I dx = none) (h0 : m.H dx = none) : Nx m mm ⟨upd m'.I dx o, m'.H, m'.as⟩ mm' :=
  ⟨x.ex.trans (Ex.new ni), x.kp, fun a h n => by
    have : a ≠ dx := fun z => h (z ▸ h0)
    show upd m'.I dx o a = m.I a
    rw [upd_ne this]; exact x.fr a h n, x.th, x.as, x.le, x.nw⟩
theorem At.caught {σ : L2.St} {m0 m : Wd} {mm0 : List Cell} {Γ : Sg} {n : String} {ns : List String} {ds : List D} {dx x C : Addr} (A : At K σ m Γ) (nx : Nx m0 mm0 m Γ.mm) (hC : clsA K n = some C) (hd : XdAt K m.I m.H m0.H dx ns ds) (hx : m.H x = none) :
    ∃ I', At K σ ⟨I', upd m.H x (exx x (.ref C) (some dx)), m.as⟩ Γ ∧ Nx m0 mm0 ⟨I', upd m.H x (exx x (.ref C) (some dx)), m.as⟩ Γ.mm ∧ Rp K I' (.ref x) (.exn n ns ds) := by
  obtain ⟨⟨vs, hv, hl, hr⟩, ni, n0⟩ := hd
  have hc : ∀ j, live Γ.mm j → m.as j ≠ dx := fun j ⟨c, h1, h2⟩ z => by
    obtain ⟨_, o, ho⟩ := (A.mm j c h1).there h2
    rw [z] at ho
    have q := A.mm j c h1
    cases c with
    | p d =>
      obtain ⟨_, o1, a2, a3⟩ := q
      rw [z, hv] at a2
      cases a2
      cases a3
    | n us =>
      obtain ⟨_, o1, a2, a3⟩ := q
      rw [z, hv] at a2
      cases a2
    | gone => exact h2 rfl
  have A1 := A.ext ni hv hc
  have nx1 := nx.ext (o := .xd ((sN ns).zip vs)) ni n0
  have g2 := Gr.new (m := []) (o := exx x (.ref C) (some dx)) A1.ih hx
  refine ⟨_, A1.g g2, nx1.trans (.g g2), .exn (xs := vs) hC (.inr upd_same) (.inr ?_) hl (hr.mono ((Ex.new ni).trans g2.i))⟩
  have : dx ≠ x := fun z => by rw [z, hx] at hv; cases hv
  rw [upd_ne this]; exact upd_same
theorem noX_run {m : Wd} {mm : List Cell} {r : Rs Fl} {De : Ends} (p : PostS K W m mm (noX r) De) : PostS K (fun _ _ _ _ => False) m mm r De := by
  cases r with
  | st => exact p
  | ex x Γ => exact p.elim
  | ok f Γ => cases f <;> exact p
theorem hs_run {l : List (Value × Option Nat × TS)} {hs : List (String × Option Nat × (Sg → Rs Fl))} (hh : Hs K W exm l hs) {De : Ends} {m0 m : Wd} {mm0 : List Cell} {Γ : Sg} {x : Xn} {σ : L2.St} {C dx : Addr} (nx : Nx m0 mm0 m Γ.mm) (A : At K σ m Γ) (hC : clsA K x.C = some C) (hd : XdAt K m.I m.H m0.H dx x.ns x.ds)
    (p : PostS K W m0 mm0 (hsL exm hs x Γ) De) : wMix K W De l (.ref C) (some dx) σ m.H := by
  induction hh with
  | nil => exact p σ m C dx nx A hC hd
  | @cons v i ts n b l r he hb hr ih =>
    cases i with
    | none =>
      rw [hsL] at p
      cases e : exm x.C n with
      | none => rw [e] at p; exact p.elim
      | some c =>
        rw [e] at p
        refine ⟨c, he.one _ _ _ e hC, fun bt y hy => ?_, fun bf => ?_⟩
        · subst bt
          obtain ⟨I', A', nx', _⟩ := A.caught nx hC hd hy
          exact hb Γ σ _ De A' (noX_run (PostS.tr p nx'))
        · subst bf
          exact ih p
    | some i =>
      rw [hsL] at p
      cases e : exm x.C n with
      | none => rw [e] at p; exact p.elim
      | some c =>
        rw [e] at p
        refine ⟨c, he.one _ _ _ e hC, fun bt y hy => ?_, fun bf => ?_⟩
        · subst bt
          obtain ⟨I', A', nx', r'⟩ := A.caught nx hC hd hy
          refine hb _ _ _ _ (A'.set (.d r')) ?_
          have p' := PostS.tr p nx'
          dsimp only at p'
          revert p'
          cases b ⟨Γ.sl.set i (some (.d (.exn x.C x.ns x.ds))), Γ.mm⟩ with
          | st => exact fun h => h
          | ex y Γ2 => exact fun h => h.elim
          | ok f Γ2 =>
            cases f with
            | nx => exact fun h σ' m' nx A => h _ m' nx A.unset
            | bk => exact fun h σ' m' nx A => h _ m' nx A.unset
            | ct => exact fun h σ' m' nx A => h _ m' nx A.unset
            | rt d => exact fun h => h
            | rf j d => exact fun h => h
        · subst bf
          exact ih p
theorem ss_try {tb : WX → TS} {l : List (Value × Option Nat × TS)} {body : Sg → Rs Fl} {hs : List (String × Option Nat × (Sg → Rs Fl))} (hb : ∀ W, SS K W (tb W) body) (hh : Hs K W exm l hs) : SS K W (fun De σ H => tb (wMix K W De l) De σ H) (sTry exm body hs) := fun Γ σ m De A p => by
  refine hb (wMix K W De l) Γ σ m De A ?_
  unfold sTry at p
  cases e : body Γ with
  | st => rw [e] at p; exact p
  | ex x Γ1 => rw [e] at p; exact fun σ' m' C dx nx A' hC hd => hs_run hh nx A' hC hd p
  | ok f Γ1 =>
    rw [e] at p
    cases f <;> exact p
end
end S

namespace S
open PySem PySem.Spec L2
/-! ### what the text says of its classes, as Bools -/
def clsOkB (K : PySem.W.Frag) (C : Addr) : Bool := PySem.W.plainGet K C Str.empty && (PySem.W.hasDictIn K C && (PySem.W.plainOver K C && decide (PySem.W.findIn K (.ref C) "__setattr__" = some (some (.builtin "object.__setattr__")))))
theorem clsOk_of {K : PySem.W.Frag} {C : Addr} (h : clsOkB K C = true) : Cls K C := by
  obtain ⟨h1, h⟩ := Bool.and_eq_true_iff.mp h
  obtain ⟨h2, h⟩ := Bool.and_eq_true_iff.mp h
  obtain ⟨h3, h4⟩ := Bool.and_eq_true_iff.mp h
  exact ⟨h1, h2, h3, of_decide_eq_true h4⟩
def clsP (K : PySem.W.Frag) (n : String) (p : Addr → Bool) : Bool := match clsA K n with
  | some C => p C
  | none => true
theorem clsP_of {K : PySem.W.Frag} {n : String} {p : Addr → Bool} (h : clsP K n p = true) {C : Addr} (hC : clsA K n = some C) : p C = true := by
  unfold clsP at h
  rw [hC] at h
  exact h
def fldB (K : PySem.W.Frag) (to tx : List (String × String)) : Bool :=
  (to.all fun p => clsP K p.1 fun C => clsOkB K C && decide (PySem.W.findIn K (.ref C) (Str.ofString p.2) = some none)) && tx.all fun p => clsP K p.1 fun C => xfB K C && decide (PySem.W.findIn K (.ref C) (Str.ofString p.2) = some none)
theorem fld_of {K : PySem.W.Frag} {to tx : List (String × String)} (h : fldB K to tx = true) : FldOk K to tx := by
  obtain ⟨h1, h2⟩ := Bool.and_eq_true_iff.mp h
  refine ⟨fun n f C hm hC => ?_, fun n f C hm hC => ?_⟩
  · obtain ⟨a, b⟩ := Bool.and_eq_true_iff.mp (clsP_of (List.all_eq_true.mp h1 _ hm) hC)
    have b : PySem.W.findIn K (.ref C) (Str.ofString f) = some none := of_decide_eq_true b
    exact ⟨clsOk_of a, b⟩
  · obtain ⟨a, b⟩ := Bool.and_eq_true_iff.mp (clsP_of (List.all_eq_true.mp h2 _ hm) hC)
    exact ⟨xfB_ok a, of_decide_eq_true b⟩
/-- isinstance by a table -/
def isaOf (tbl : List (Kd × Kc × Bool)) (a : Kd) (b : Kc) : Option Bool := (tbl.find? fun e => decide (e.1 = a) && decide (e.2.1 = b)).map fun e => e.2.2
def kcB (K : PySem.W.Frag) (b : Kc) (p : Value → Bool) : Bool := match b with
  | .t n => p (.type n)
  | .c n => clsP K n fun C => p (.ref C)
def has4 (K : PySem.W.Frag) (C : Addr) : Bool := decide (PySem.W.findIn K (.ref C) "__class__" = some (some (.builtin "object.__class__"))) && (decide (PySem.W.specialIn K (.builtin "object.__class__") "__get__" = some (some (.builtin "getset_descriptor.__get__"))) &&
  (decide (PySem.W.takesIn K (.builtin "object.__class__") = some true) && decide (PySem.W.mroIn K C (.type "object") = some true)))
def kdB (K : PySem.W.Frag) (a : Kd) (v : Value) (r : Bool) : Bool := match a with
  | .t n => decide (PySem.W.kitOne K (.type n) v = some r)
  | .o n => clsP K n fun C => clsOkB K C && (has4 K C && decide (PySem.W.kitOne K (.ref C) v = some r))
  | .x n => clsP K n fun C => ((PySem.W.clsIn K C).isSome && (decide (PySem.W.findIn K (.ref C) "__getattribute__" = some (some (.builtin "BaseException.__getattribute__"))) && (decide (PySem.W.findIn K (.ref C) "__getattr__" = some none) && decide (PySem.W.subIn K (.ref C) (.type "BaseException") = some true)))) &&
      (has4 K C && decide (PySem.W.kitOne K (.ref C) v = some r))
theorem has4_of {K : PySem.W.Frag} {C : Addr} (h : has4 K C = true) : PySem.W.findIn K (.ref C) "__class__" = some (some (.builtin "object.__class__")) ∧ PySem.W.specialIn K (.builtin "object.__class__") "__get__" = some (some (.builtin "getset_descriptor.__get__")) ∧ PySem.W.takesIn K (.builtin "object.__class__") = some true ∧ PySem.W.mroIn K C (.type "object") = some true := by
  obtain ⟨h1, h⟩ := Bool.and_eq_true_iff.mp h
  obtain ⟨h2, h⟩ := Bool.and_eq_true_iff.mp h
  obtain ⟨h3, h4⟩ := Bool.and_eq_true_iff.mp h
  exact ⟨of_decide_eq_true h1, of_decide_eq_true h2, of_decide_eq_true h3, of_decide_eq_true h4⟩
theorem kd_of {K : PySem.W.Frag} {a : Kd} {v : Value} {r : Bool} (h : kdB K a v r = true) : KdOk K a v r := by
  cases a with
  | t n =>
    have h : PySem.W.kitOne K (.type n) v = some r := of_decide_eq_true h
    exact h
  | o n =>
    intro C hC
    obtain ⟨h1, h⟩ := Bool.and_eq_true_iff.mp (clsP_of h hC)
    obtain ⟨h2, h3⟩ := Bool.and_eq_true_iff.mp h
    obtain ⟨a1, a2, a3, a4⟩ := has4_of h2
    exact ⟨⟨clsOk_of h1, a1, a2, a3, a4⟩, of_decide_eq_true h3⟩
  | x n =>
    intro C hC
    obtain ⟨h1, h⟩ := Bool.and_eq_true_iff.mp (clsP_of h hC)
    obtain ⟨h2, h3⟩ := Bool.and_eq_true_iff.mp h
    obtain ⟨a1, a2, a3, a4⟩ := has4_of h2
    obtain ⟨b1, h1⟩ := Bool.and_eq_true_iff.mp h1
    obtain ⟨b2, h1⟩ := Bool.and_eq_true_iff.mp h1
    obtain ⟨b3, b4⟩ := Bool.and_eq_true_iff.mp h1
    exact ⟨⟨b1, of_decide_eq_true b2, of_decide_eq_true b3, of_decide_eq_true b4, a1, a2, a3, a4⟩, of_decide_eq_true h3⟩
def isaB (K : PySem.W.Frag) (tbl : List (Kd × Kc × Bool)) : Bool := tbl.all fun e => kcB K e.2.1 fun v => kdB K e.1 v e.2.2
theorem isa_of {K : PySem.W.Frag} {tbl : List (Kd × Kc × Bool)} (h : isaB K tbl = true) : IsaOk K (isaOf tbl) := fun a b r e v hv => by
  unfold isaOf at e
  cases hf : tbl.find? fun e => decide (e.1 = a) && decide (e.2.1 = b) with
  | none => rw [hf] at e; cases e
  | some z =>
    rw [hf] at e
    cases e
    have hp := List.find?_some hf
    obtain ⟨h1, h2⟩ := Bool.and_eq_true_iff.mp hp
    have h1 := of_decide_eq_true h1
    have h2 := of_decide_eq_true h2
    subst h1 h2
    have q := List.all_eq_true.mp h z (List.mem_of_find?_eq_some hf)
    obtain ⟨a, b, r⟩ := z
    cases hv with
    | t n => exact kd_of q
    | c hC => exact kd_of (clsP_of (p := fun C => kdB K a (.ref C) r) q hC)
/-- which clause takes which class -/
def exmOf (tbl : List (String × String × Bool)) (x n : String) : Option Bool := (tbl.find? fun e => decide (e.1 = x) && decide (e.2.1 = n)).map fun e => e.2.2
def exmB (K : PySem.W.Frag) (tbl : List (String × String × Bool)) : Bool := tbl.all fun e => clsP K e.1 fun C => clsP K e.2.1 fun N => decide (PySem.W.exmOne K (.ref C) (.ref N) = some e.2.2)
theorem exm_of {K : PySem.W.Frag} {tbl : List (String × String × Bool)} (h : exmB K tbl = true) {n : String} {N : Addr} (hN : clsA K n = some N) : ExmC K (exmOf tbl) n (.ref N) := ⟨fun x C b e hC => by
  unfold exmOf at e
  cases hf : tbl.find? fun e => decide (e.1 = x) && decide (e.2.1 = n) with
  | none => rw [hf] at e; cases e
  | some z =>
    rw [hf] at e
    cases e
    have hp := List.find?_some hf
    obtain ⟨h1, h2⟩ := Bool.and_eq_true_iff.mp hp
    have h1 := of_decide_eq_true h1
    have h2 := of_decide_eq_true h2
    subst h1 h2
    exact of_decide_eq_true (clsP_of (clsP_of (List.all_eq_true.mp h z (List.mem_of_find?_eq_some hf)) hC) hN)⟩
theorem cls_ns {K : PySem.W.Frag} {n : String} {C : Addr} (h : PySem.W.nsIn K mainGlobals (Str.ofString n) = some (some (.ref C))) : clsA K n = some C := by
  unfold clsA
  rw [h]
theorem rp_cl {K : PySem.W.Frag} {n : String} {C : Addr} (h : clsA K n = some C) (I : Hp) : Rp K I (.ref C) (.cl n) := .cl h
/-! ### defs, methods, __init__ -/
section
variable {P : Program} {w : World} {K : PySem.W.Frag} {mg : Str → Option Value} {base : Heap} {x qual : Str} {params : Arguments} {stm : List Stmt} {scope : Scope} {dvs : List V} {f : Addr} {fd : FuncData} {N ps : List Str} {k n m : Nat} {body : Sg → Rs Fl}
theorem okfd_P (F1 : FunD K x qual params stm scope dvs [] f fd) (S : FnScope N ps scope) (hN : N.length = n) (hm : ps.length = m) (hb : BodyD P w K mg base N qual scope stm f k body) : FnOk P w K mg base (L2.CX P w) (k + 1) f fd ps (spP K (defP m n body)) :=
  okf_P F1 S hN (fun ds h => by
    unfold defP at h ⊢
    by_cases e : ds.length = m
    · rw [if_pos e] at h ⊢; exact ⟨rfl, e.trans hm.symm⟩
    · rw [if_neg e] at h; exact absurd rfl h) hb
theorem okfd_F (F1 : FunD K x qual params stm scope dvs [] f fd) (S : FnScope N ps scope) (hN : N.length = n) (hm : ps.length = m) (hb : BodyD P w K mg base N qual scope stm f k body) : FnOk P w K mg base (L2.CX P w) (k + 1) f fd ps (spF K (defF m n body)) :=
  okf_F F1 S hN (fun ds h => by
    unfold defF at h ⊢
    by_cases e : ds.length = m
    · rw [if_pos e] at h ⊢; exact ⟨rfl, e.trans hm.symm⟩
    · rw [if_neg e] at h; exact absurd rfl h) hb
theorem okfd_B (F1 : FunD K x qual params stm scope dvs [] f fd) (S : FnScope N ps scope) (hN : N.length = n) (hm : ps.length = m) (hb : BodyD P w K mg base N qual scope stm f k body) : FnOk P w K mg base (L2.CX P w) (k + 1) f fd ps (spB K (defB m n body)) :=
  okf_B F1 S hN (fun ds mm h => by
    unfold defB at h ⊢
    by_cases e : ds.length = m
    · rw [if_pos e] at h ⊢; exact ⟨rfl, e.trans hm.symm⟩
    · rw [if_neg e] at h; exact absurd rfl h) hb
end
end S

namespace S
open PySem PySem.Spec L2 PyProof.Rows
/-! ### sets of keys of any one kind: members, number, a table that can be walked (HandS.Set has it of whole numbers; this goes its road for any KeyKind) -/
/-- the table rises, and is led where the order is not the text's -/
structure TabOk (w : World) (t : SetTable) : Prop where
  ris : Ris t.place.toList
  led : w.params.followText "set-order" = true ∨ t.led = true
section
variable {P : Program} {w : World} {K : Type} [DecidableEq K] (knd : KeyKind P w K)
/-- no two elements have one key -/
def Apart (l : List (Int × Value)) : Prop := l.Pairwise fun a b => ∀ k, knd.is k a.2 = true → knd.is k b.2 = false
structure GoodL (S : K → Bool) (l : List (Int × Value)) : Prop where
  el : ElemsOf knd l
  ap : Apart knd l
  me : ∀ k, S k = true ↔ ∃ e ∈ l, knd.is k e.2 = true
def SetG (w : World) {P : Program} (knd : KeyKind P w K) (h : Heap) (a : Addr) (S : K → Bool) (n : Nat) : Prop :=
  ∃ o es ep t, h.get? a = some o ∧ o.ExactSet ∧ o.data = .set es ep t ∧ GoodL knd S es.toList ∧ es.size < scanBound ∧ t.fits es.size = true ∧ es.size = n ∧ TabOk w t
variable {knd} {h h' : Heap} {a : Addr} {S : K → Bool} {n : Nat}
theorem Apart.perm {l m : List (Int × Value)} (x : Apart knd l) (p : m.Perm l) : Apart knd m :=
  (p.pairwise_iff fun {a b} q k hk => by
    cases z : knd.is k a.2 with
    | false => rfl
    | true => have := q k z; rw [hk] at this; cases this).mpr x
theorem GoodL.perm {l m : List (Int × Value)} (x : GoodL knd S l) (p : m.Perm l) : GoodL knd S m :=
  ⟨x.el.perm p, x.ap.perm p, fun k => (x.me k).trans ⟨fun ⟨e, he, q⟩ => ⟨e, p.mem_iff.mpr he, q⟩, fun ⟨e, he, q⟩ => ⟨e, p.mem_iff.mp he, q⟩⟩⟩
theorem GoodL.cons {l : List (Int × Value)} (x : GoodL knd S l) {k : K} {v : Value} (hk : knd.is k v = true) (hs : v.scannable = true) (hn : S k = false) : GoodL knd (fun j => S j || decide (j = k)) ((knd.hash k, v) :: l) := by
  refine ⟨fun e he => ?_, List.pairwise_cons.mpr ⟨fun e he j hj => ?_, x.ap⟩, fun j => ?_⟩
  · rcases List.mem_cons.mp he with rfl | he
    · exact ⟨⟨k, hk, rfl⟩, hs⟩
    · exact x.el e he
  · cases z : knd.is j e.2 with
    | false => rfl
    | true =>
      have e1 : j = k := knd.inj _ _ _ hj hk
      have := (x.me j).mpr ⟨e, he, z⟩
      rw [e1, hn] at this
      cases this
  · rw [Bool.or_eq_true, decide_eq_true_eq, x.me j]
    constructor
    · rintro (⟨e, he, q⟩ | rfl)
      · exact ⟨e, List.mem_cons_of_mem _ he, q⟩
      · exact ⟨_, List.mem_cons_self .., hk⟩
    · rintro ⟨e, he, q⟩
      rcases List.mem_cons.mp he with rfl | he
      · exact .inr (knd.inj _ _ _ q hk)
      · exact .inl ⟨e, he, q⟩
theorem GoodL.same {l : List (Int × Value)} (x : GoodL knd S l) {k : K} (hk : S k = true) : GoodL knd (fun j => S j || decide (j = k)) l :=
  ⟨x.el, x.ap, fun j => by
    rw [Bool.or_eq_true, decide_eq_true_eq, ← x.me j]
    exact ⟨fun z => z.elim id fun e => e ▸ hk, .inl⟩⟩
theorem SetG.at (R : SetG w knd h a S n) (k : ∀ o, h.get? a = some o → h'.get? a = some o) : SetG w knd h' a S n := by
  obtain ⟨o, es, ep, t, ho, r⟩ := R
  exact ⟨o, es, ep, t, k o ho, r⟩
theorem SetG.congr {S' : K → Bool} (R : SetG w knd h a S n) (e : ∀ k, S' k = S k) : SetG w knd h a S' n := by
  rw [show S' = S from funext e]; exact R
/-- a new set -/
theorem setG_new {h : Heap} {a : Addr} (ho : h.get? a = some { cls := .type "set", dict := none, data := .set #[] 0 (.fresh 0 0 (!w.params.followText "set-order")) }) : SetG w knd h a (fun _ => false) 0 :=
  ⟨_, #[], 0, _, ho, ⟨rfl, rfl, rfl⟩, rfl, ⟨(fun e he => nomatch he), List.Pairwise.nil, fun k => by simp⟩, by decide, by rfl, rfl, List.Pairwise.nil, by
    show _ ∨ (!w.params.followText "set-order") = true
    cases w.params.followText "set-order"
    · exact .inr rfl
    · exact .inl rfl⟩
variable {A : Around} {E : Value → Shared → Prop} {s : Shared}
/-- the end of an adding: laid, and all laid anew where it grew too full -/
theorem setG_lay {g : Bool → Sem Unit} (hg : ∀ (b : Bool) (s₁ : Shared) (Q' : Unit → Shared → Prop), Q' () s₁ → wpAny (model P w) A (g b) Q' E s₁) {o : Obj} {es es1 : Array (Int × Value)} {ep : Nat} {t t2 : SetTable}
    (ho : s.heap.get? a = some o) (hex : o.ExactSet) (hd : o.data = .set es ep t) (G1 : GoodL knd S es1.toList) (hb : es1.size < scanBound) (hf : t2.fits es1.size = true) (tk : TabOk w t2) {dm : Bool} {R : Option Bool → Shared → Prop}
    (hR : ∀ h', Heap.SameBut a s.heap h' → SetG w knd h' a S es1.size → R (some true) { s with heap := h' }) :
    wpAny (model P w) A (do
        storeSet a es1 t2
        if (!dm && t2.tooFull) = true then do
            g (relayAll t2 es1 (SetTable.grown es1.size)).2.2
            storeSet a (relayAll t2 es1 (SetTable.grown es1.size)).1 (relayAll t2 es1 (SetTable.grown es1.size)).2.1
            pure (some true)
          else pure (some true)) R E s := by
  have ho1 := store_at (es' := es1) (t' := t2) ho hd
  have sb1 := Heap.SameBut.update s.heap a (Obj.putSet es1 t2)
  refine wpAny_bind (wpAny_storeSet_of ho hd ?_ (fits_of_scanBound hb))
  by_cases hc : (!dm && t2.tooFull) = true
  · rw [if_pos hc]
    have pm := relayAll_perm t2 es1 (SetTable.grown es1.size)
    have f3 := relayAll_fits t2 es1 (SetTable.grown es1.size)
    have r3 := relayAll_ris t2 es1 (SetTable.grown es1.size)
    have l3 := relayAll_led t2 es1 (SetTable.grown es1.size)
    revert pm f3 r3 l3
    generalize relayAll t2 es1 (SetTable.grown es1.size) = Z
    obtain ⟨es2, t3, gave⟩ := Z
    intro pm f3 r3 l3
    have hz : es2.size = es1.size := by rw [← Array.length_toList, pm.length_eq, Array.length_toList]
    refine wpAny_bind (hg _ _ _ (wpAny_bind (wpAny_storeSet_of ho1 rfl ?_ (fits_of_scanBound (by rw [hz]; exact hb)))))
    exact wpAny_pure (hR _ (sb1.trans (Heap.SameBut.update _ a _)) ⟨_, es2, _, t3, store_at (es' := es2) (t' := t3) ho1 rfl, hex, rfl, G1.perm pm, by rw [hz]; exact hb, f3, hz, r3, tk.led.imp id fun z => l3.trans z⟩)
  · rw [if_neg hc]
    exact wpAny_pure (hR _ sb1 ⟨_, es1, _, t2, ho1, hex, rfl, G1, hb, hf, rfl, tk⟩)
theorem setG_add {k : K} {x : Value} (hk : knd.is k x = true) (hs : x.scannable = true) {Q : Bool → Shared → Prop} (R : SetG w knd s.heap a S n) (room : n + 1 < scanBound)
    (hQ : ∀ h', Heap.SameBut a s.heap h' → SetG w knd h' a (fun j => S j || decide (j = k)) (if S k = true then n else n + 1) → Q (!S k) { s with heap := h' }) :
    wpAny (model P w) A (setAddHashed a x (knd.hash k)) Q E s := by
  obtain ⟨o, es, ep, t, ho, hex, hd, G0, hb, hf, hn, tk⟩ := R
  unfold setAddHashed setAddHashedIn
  refine wpAny_holding (wpAny_bind (wpAny_setState_of ho hd hf ?_))
  dsimp only
  rw [byScan_of hs hb G0.el]
  simp only [↓reduceIte]
  unfold setAddByScan
  refine wpAny_bind (wpAny_bind (wpAny_rule (wpAny_bind (wpAny_setScan_of hk ho hd hf G0.el ?_))))
  cases hfi : List.findIdx? (fun e => knd.is k e.2) es.toList with
  | some j =>
    obtain ⟨hj, pj, _⟩ := List.findIdx?_eq_some_iff_getElem.mp hfi
    have hS : S k = true := (G0.me k).mpr ⟨es.toList[j], List.getElem_mem hj, pj⟩
    have q := hQ s.heap (Heap.SameBut.refl a s.heap) ⟨o, es, ep, t, ho, hex, hd, G0.same hS, hb, hf, by rw [if_pos hS]; exact hn, tk⟩
    rw [hS] at q
    exact wpAny_pure (wpAny_pure q)
  | none =>
    have hS : S k = false := by
      cases z : S k with
      | false => rfl
      | true =>
        obtain ⟨e, he, q⟩ := (G0.me k).mp z
        have c := List.findIdx?_eq_none_iff.mp hfi e he
        rw [q] at c
        cases c
    have gw : ∀ (b : Bool) {s₁ : Shared} {Q' : Unit → Shared → Prop}, Q' () s₁ → wpAny (model P w) A (match b with | true => rule "set.scan.the-table-gave-way" | false => pure ()) Q' E s₁ :=
      fun b s₁ Q' q => by cases b <;> first | exact wpAny_pure q | exact wpAny_rule q
    have pm := layNew_perm t es (knd.hash k) x
    have f1 := layNew_fits t es (knd.hash k) x
    have r1 := layNew_ris t es (knd.hash k) x tk.ris
    have l1 := layNew_led t es (knd.hash k) x
    dsimp only
    revert pm f1 r1 l1
    generalize layNew t es (knd.hash k) x = Z
    obtain ⟨es1, t1, dm, gave⟩ := Z
    intro pm f1 r1 l1
    dsimp only at pm f1 r1 l1 ⊢
    rw [Array.toList_push] at pm
    have pc : es1.toList.Perm ((knd.hash k, x) :: es.toList) := pm.trans (List.perm_append_singleton _ _)
    have G1 := (G0.cons hk hs hS).perm pc
    have hz : es1.size = n + 1 := by rw [← Array.length_toList, pc.length_eq, List.length_cons, Array.length_toList, hn]
    have hb1 : es1.size < scanBound := by rw [hz]; exact room
    have tk1 : TabOk w t1 := ⟨r1, tk.led.imp id fun z => l1.trans z⟩
    have fin : ∀ h', Heap.SameBut a s.heap h' → SetG w knd h' a (fun j => S j || decide (j = k)) es1.size → Q true { s with heap := h' } := fun h' sb r => by
      have q := hQ h' sb
      rw [hS] at q
      rw [hz] at r
      exact q r
    refine wpAny_bind (gw _ ?_)
    split
    · refine wpAny_bind ?_
      rw [hashByValue_scannable 8 hs]
      refine wpAny_pure (setG_lay ?_ ho hex hd G1 hb1 ?_ ?_ ?_)
      · intro b s₁ Q' q; cases b <;> first | exact wpAny_pure q | exact wpAny_rule q
      · first | exact f1 | (split <;> first | exact f1 | exact SetTable.fits_plain_off f1)
      · first | exact tk1 | (split <;> exact ⟨tk1.ris, tk1.led⟩)
      · intro h' sb r; dsimp only; exact wpAny_pure (fin h' sb r)
    · refine wpAny_bind (wpAny_pure ?_)
      simp only [↓reduceIte]
      refine setG_lay ?_ ho hex hd G1 hb1 f1 tk1 ?_
      · intro b s₁ Q' q; cases b <;> first | exact wpAny_pure q | exact wpAny_rule q
      · intro h' sb r; dsimp only; exact wpAny_pure (fin h' sb r)
end
end S

namespace S
open PySem PySem.Spec L2 PyProof.Rows
section
variable {P : Program} {w : World} {K : Type} [DecidableEq K] {knd : PySem.KeyKind P w K} {A : Around} {E : Value → Shared → Prop} {s : Shared}
/-- the first i of a list, as a set -/
def upTo (ks : List K) (i : Nat) : K → Bool := fun j => decide (j ∈ ks.take i)
theorem upTo_succ {ks : List K} {i : Nat} {k : K} (h : ks[i]? = some k) (j : K) : upTo ks (i + 1) j = (upTo ks i j || decide (j = k)) := by
  unfold upTo
  rw [List.take_add_one, h, Option.toList_some]
  simp [List.mem_append]
/-- set.update's loop over what is walked -/
theorem setG_loop {I : Addr} {fp wr : List Addr} {G : Array GenState → Array GenState → Prop} {n : Nat} {Pv : Nat → Value → Prop} {St : Nat → Shared → Prop} {R : Result → Shared → Prop}
    (W : WalksS P w A.in1 I fp wr G n Pv St) {a : Addr} (ha : a ∉ fp) {ks : List K} (hn : n = ks.length) (hb : ks.length + 1 < scanBound) (hval : ∀ (i : Nat) (v : Value), Pv i v → ∃ k : K, ks[i]? = some k ∧ knd.is k v = true ∧ v.scannable = true)
    (hR : ∀ s' c, Moved (a :: wr) G s s' → c ≤ n → SetG w knd s'.heap a (upTo ks n) c → R (.ok (.ret .none)) s') (h0 : St 0 s) (hS0 : SetG w knd s.heap a (fun _ => false) 0) :
    codeAny (model P w) A (.builtin "set.update.loop" ⟨[.ref a, .ref I], []⟩) R s := by
  have haw : a ∉ wr := fun h => ha (W.sub _ h)
  have sub : ∀ b ∈ wr, b ∈ a :: wr := fun b hb => List.mem_cons_of_mem _ hb
  suffices H : ∀ (d i : Nat) (s : Shared), n - i = d → i ≤ n → St i s → (∃ c, c ≤ i ∧ SetG w knd s.heap a (upTo ks i) c) → (∀ s' c, Moved (a :: wr) G s s' → c ≤ n → SetG w knd s'.heap a (upTo ks n) c → R (.ok (.ret .none)) s') →
      codeAny (model P w) A (.builtin "set.update.loop" ⟨[.ref a, .ref I], []⟩) R s from
    H n 0 s (Nat.sub_zero n) (Nat.zero_le _) h0 ⟨0, Nat.le_refl _, hS0.congr fun k => by simp [upTo]⟩ hR
  clear hR h0 hS0
  intro d
  induction d with
  | zero =>
    intro i s hd hi hst ⟨c, hc, hS⟩ hR
    obtain rfl : i = n := by omega
    refine codeAny_builtin F.entry_set_update_loop ?_
    rw [Around.under_plainId F.plain_set_update_loop _]
    show wpAny _ A.in1 (pyNext (.ref I) >>= _) _ _ s
    refine wpAny_bind (W.done s _ _ hst fun s' hm => ?_)
    show wpAny _ A.in1 (ret Value.none) _ _ s'
    exact wpAny_pure (hR s' c (hm.mono sub) hc (hS.at fun o e => hm.heap a o haw e))
  | succ d ih =>
    intro i s hd hi hst ⟨c, hc, hS⟩ hR
    have hlt : i < n := by omega
    refine codeAny_builtin F.entry_set_update_loop ?_
    rw [Around.under_plainId F.plain_set_update_loop _]
    show wpAny _ A.in1 (pyNext (.ref I) >>= _) _ _ s
    refine wpAny_bind (W.item i s _ _ hlt hst fun v s' hP hst' hm => ?_)
    obtain ⟨k, hk, hi1, hi2⟩ := hval i v hP
    have hS' : SetG w knd s'.heap a (upTo ks i) c := hS.at fun o e => hm.heap a o haw e
    show wpAny _ A.in1 (holding [v] (setAdd a v) >>= _) _ _ s'
    refine wpAny_bind (wpAny_holding ?_)
    unfold setAdd
    refine wpAny_holding (wpAny_bind (knd.pyHash hi1 ?_))
    refine setG_add (s := { s' with toks := s'.toks + 1 }) hi1 hi2 hS' (by omega) fun h' sb hS2 => ?_
    have other : ∀ b o, b ≠ a → s'.heap.get? b = some o → h'.get? b = some o := fun b o ne e => (sb.2 b ne).trans e
    refine wpAny_pure ⟨plainId_quiet F.plain_set_update_loop _, ih (i + 1) _ (by omega) hlt (W.frame _ s' _ _ hst' (Nat.le_succ _) fun b hb o e => other b o (fun h => ha (h ▸ hb)) e)
      ⟨_, ?_, hS2.congr (upTo_succ hk)⟩ fun s'' c2 hm2 hc2 hS3 => hR s'' c2 (Moved.trans W.gtrans ((hm.mono sub).then_heap (Nat.le_succ _) fun b o hb e => other b o (fun h => hb (h ▸ List.mem_cons_self)) e) hm2) hc2 hS3⟩
    split <;> omega
/-- the empty set's object -/
def set0 (w : World) : Obj := { cls := .type "set", dict := none, data := .set #[] 0 (.fresh 0 0 (!w.params.followText "set-order")) }
/-- set(l), l a list of keys -/
theorem call_setG {l : Addr} {items : Array Value} {ks : List K} {Q : Value → Shared → Prop} (hh : A.handled = none) (hl : s.heap.IsList l items) (hsz : items.size = ks.length) (hb : ks.length + 1 < scanBound)
    (hval : ∀ (i : Nat) (v : Value), items[i]? = some v → ∃ k : K, ks[i]? = some k ∧ knd.is k v = true ∧ v.scannable = true)
    (h : ∀ (h' : Heap) (tk c : Nat), SetG w knd h' s.heap.objs.size (fun j => decide (j ∈ ks)) c → c ≤ ks.length → (∀ b o, s.heap.get? b = some o → h'.get? b = some o) → Q (.ref s.heap.objs.size) { s with heap := h', toks := tk }) :
    wpAny (model P w) A (call (.type "set") [.ref l]) Q E s := by
  obtain ⟨c, tl, hmro⟩ := F.called_set.mro
  have hmade := F.called_set.made
  have hsub := F.called_set.sub
  refine wpAny_call (codeAny_of_tree ?_)
  show wpAny _ _ (callAny (.type "set") _) _ _ _
  refine wpAny_pure ⟨Code.quiet_builtin _ (by decide +kernel), codeAny_builtin F.entry_type_call ?_⟩
  rw [Around.under_plain (weight_type_call_type "set" [.ref l] []) rfl]
  have h1 := F.called_set.notType
  have h2 := F.called_set.canCreate
  have hct := F.typeCall_set_1 (.ref l)
  repeat (any_goals (first | assumption | wp_step))
  refine codeAny_mono (code_set_led1 (.ref l) (E := E) (Q₁ := fun obj s₁ => obj = .ref s.heap.objs.size ∧ s₁ = { s with heap := s.heap.push (set0 w) }) ⟨rfl, rfl⟩) fun r s₁ hr => ?_
  cases r with
  | error e => exact hr
  | ok fl =>
    cases fl with
    | ret obj =>
      obtain ⟨rfl, rfl⟩ := hr
      have hS : (s.heap.push (set0 w)).get? s.heap.objs.size = some (set0 w) := Heap.get?_push_size _ rfl
      have hT : Shared.TypeIs { s with heap := s.heap.push (set0 w) } (.ref s.heap.objs.size) "set" := ⟨_, hS, rfl⟩
      have hli := F.called_set.init.lookup
      have hbi := F.called_set.init.bind (.ref s.heap.objs.size)
      repeat (any_goals (first | assumption | wp_step))
      refine codeAny_mono (codeAny_call_builtin (R := wants (fun r s₂ => r = .none ∧ ∃ h' tk c, s₂ = { s with heap := h', toks := tk } ∧ SetG w knd h' s.heap.objs.size (fun j => decide (j ∈ ks)) c ∧ c ≤ ks.length ∧
          (∀ b o, s.heap.get? b = some o → h'.get? b = some o)) E) F.called_set.init.plain F.entry_set_init (check_set_init_1 hT ?_)) fun r₂ s₂ hr₂ => ?_
      · obtain ⟨ol, hol, hcl, nl, hdl⟩ := hl
        obtain ⟨ocls, odict, odata, oslots⟩ := ol
        simp only at hcl hdl
        subst hcl; subst hdl
        have hol' : (s.heap.push (set0 w)).get? l = some { cls := .type "list", dict := odict, data := .seq items nl, slots := oslots } := Heap.get?_push_of_some _ hol
        have hsls := F.sub_list_set
        have hslf := F.sub_list_frozenset
        have hne : (Value.type "list" == Value.type "dict") = false := by decide
        have hl1 : (s.heap.push (set0 w)).IsList l items := ⟨_, hol', rfl, nl, rfl⟩
        unfold Builtin.«set.__init__» noKeywords Builtin.Frozenset.updateFrom
        generalize hPI : pyIter = PI
        wp_walk
        subst hPI
        refine wpAny_pyIter_list hl1 (wpAny_bind (wpAny_runValue ?_))
        have hlS : l < s.heap.objs.size := Heap.lt_size hol
        have hh3 : A.in1.in1.in1.handled = none := by simp [hh]
        have sz : (s.heap.push (set0 w)).objs.size = s.heap.objs.size + 1 := Heap.size_push ..
        have hneI : l ≠ (s.heap.push (set0 w)).objs.size := by rw [sz]; exact Nat.ne_of_lt (Nat.lt_succ_of_lt hlS)
        have hSf : s.heap.objs.size ∉ [(s.heap.push (set0 w)).objs.size, l] := by
          rw [sz]
          simp only [List.mem_cons, List.not_mem_nil, or_false, not_or]
          exact ⟨Nat.ne_of_lt (Nat.lt_succ_self _), Nat.ne_of_gt hlS⟩
        refine setG_loop (ks := ks) (knd := knd) ((Walks.list hh3 _ l hneI items).toS) hSf hsz hb hval ?_ ⟨⟨_, Heap.get?_push_size _ rfl, rfl, rfl⟩, (hl1.push _)⟩ (setG_new (Heap.get?_push_of_some _ hS))
        intro s' c' hm hc' hS'
        obtain ⟨h', g2, d', tk', os'⟩ := s'
        obtain rfl : g2 = s.gens := hm.gens
        obtain rfl : d' = s.drawn := hm.drawn
        obtain rfl : os' = s.os := hm.os
        show wpAny _ _ _ _ _ _
        refine wpAny_pure ?_
        show wpAny _ _ (ret Value.none) _ _ _
        rw [hsz] at hc'
        refine wpAny_pure ⟨rfl, h', tk', c', rfl, hS'.congr fun j => by unfold upTo; rw [hsz, List.take_length], hc', fun b o e => ?_⟩
        have hb0 : b < s.heap.objs.size := Heap.lt_size e
        exact hm.heap b o (by
          rw [sz]
          simp only [List.mem_cons, List.not_mem_nil, or_false, not_or]
          exact ⟨Nat.ne_of_lt hb0, Nat.ne_of_lt (Nat.lt_succ_of_lt hb0)⟩) (Heap.get?_push_of_some _ (Heap.get?_push_of_some _ e))
      · cases r₂ with
        | error e => exact hr₂
        | ok fl₂ =>
          cases fl₂ with
          | ret r =>
            obtain ⟨rfl, h', tk, c', rfl, hS', hc', hk'⟩ := hr₂
            repeat (any_goals (first | assumption | wp_step))
            exact h _ _ _ hS' hc' hk'
          | _ => exact hr₂.elim
    | _ => exact hr.elim
end
end S

namespace S
open PySem PySem.Spec L2 PyProof.Rows
theorem strs_of_vals : ∀ (vs : List Value), (∀ v ∈ vs, ∃ x t, v = Value.str x t) → ∃ ss, StrsAre vs ss
  | [], _ => ⟨[], .nil⟩
  | v :: vs, h => by
    obtain ⟨x, t, rfl⟩ := h v (List.mem_cons_self ..)
    obtain ⟨ss, q⟩ := strs_of_vals vs fun u hu => h u (List.mem_cons_of_mem _ hu)
    exact ⟨x :: ss, .cons x t q⟩
theorem strsAre_mem : ∀ {vs : List Value} {ss : List Str}, StrsAre vs ss → ∀ k, k ∈ ss ↔ ∃ v ∈ vs, v.isStrOf k = true := by
  intro vs ss h
  induction h with
  | nil => intro k; simp
  | cons x t h ih =>
    intro k
    rw [List.mem_cons, ih k]
    constructor
    · rintro (rfl | ⟨v, hv, q⟩)
      · exact ⟨_, List.mem_cons_self .., by simp [Value.isStrOf]⟩
      · exact ⟨v, List.mem_cons_of_mem _ hv, q⟩
    · rintro ⟨v, hv, q⟩
      rcases List.mem_cons.mp hv with rfl | hv
      · left
        obtain ⟨t', e⟩ := Value.isStrOf_shape q
        cases e
        rfl
      · exact .inr ⟨v, hv, q⟩
theorem strsAre_apart : ∀ {vs : List Value} {ss : List Str}, StrsAre vs ss → vs.Pairwise (fun a b => ∀ k, a.isStrOf k = true → b.isStrOf k = false) → ss.Nodup := by
  intro vs ss h
  induction h with
  | nil => intro _; exact List.nodup_nil
  | cons x t h ih =>
    intro p
    obtain ⟨p1, p2⟩ := List.pairwise_cons.mp p
    refine List.nodup_cons.mpr ⟨fun hx => ?_, ih p2⟩
    obtain ⟨v, hv, q⟩ := (strsAre_mem h x).mp hx
    rw [p1 v hv x (by simp [Value.isStrOf])] at q
    cases q
section
variable {P : Program} {w : World} {A : Around} {E : Value → Shared → Prop} {s : Shared} {a : Addr} {S : Str → Bool} {n : Nat}
/-- sorted(s), s a set of texts -/
theorem sorted_setG {Q : Value → Shared → Prop} (R : SetG w (PySem.strKind P w) s.heap a S n) (hh : A.handled = none) (h64 : n < 64)
    (hQ : ∀ (s' : Shared) (p : Addr) (out : Array Value) (c : Nat) (ss : List Str), (∀ b o, s.heap.get? b = some o → s'.heap.get? b = some o) → s'.gens = s.gens → s'.os = s.os → s.heap.objs.size ≤ p →
      s'.heap.get? p = some (seqObj "list" out c) → StrsAre out.toList ss → sortedS ss = true → ss.Nodup → (∀ k, k ∈ ss ↔ S k = true) → ss.length = n → Q (.ref p) s') :
    wpAny (model P w) A (call (.builtin "sorted") [.ref a]) Q E s := by
  obtain ⟨o, es, ep, t, ho, hex, hd, G0, hb, hf, hn, tk⟩ := R
  refine Calls.call_function_entry kind_sorted plain_sorted entry_sorted (args_sorted1 _) ?_
  unfold Builtin.«sorted»
  refine wpAny_bind (m := checkCount "sorted" 1 1 _) (wpAny_pure ?_)
  refine wpAny_bind (collect_set (A := A.in1) hh ⟨o, ho, hex.1, hd⟩ hf hb tk.ris tk.led fun s1 vs k1 hz g1 o1 pm => ?_)
  have lv : vs.length = n := by rw [pm.length_eq, List.length_map, Array.length_toList]; exact hn
  obtain ⟨ss0, h0⟩ := strs_of_vals vs fun v hv => by
    obtain ⟨e, he, q⟩ := List.mem_map.mp (pm.mem_iff.mp hv)
    obtain ⟨⟨k, hk, _⟩, _⟩ := G0.el e he
    obtain ⟨t, ht⟩ := Value.isStrOf_shape hk
    exact ⟨k, t, by rw [← q]; exact ht⟩
  have ap : vs.Pairwise fun a b => ∀ k, a.isStrOf k = true → b.isStrOf k = false := by
    refine (pm.pairwise_iff fun {a b} q k hk => ?_).mpr ?_
    · cases z : a.isStrOf k with
      | false => rfl
      | true => have := q k z; rw [hk] at this; cases this
    · exact List.pairwise_map.mpr G0.ap
  have m0 : ∀ k, k ∈ ss0 ↔ S k = true := fun k => by
    rw [strsAre_mem h0 k, G0.me k]
    constructor
    · rintro ⟨v, hv, q⟩
      obtain ⟨e, he, rfl⟩ := List.mem_map.mp (pm.mem_iff.mp hv)
      exact ⟨e, he, q⟩
    · rintro ⟨e, he, q⟩
      exact ⟨e.2, pm.mem_iff.mpr (List.mem_map.mpr ⟨e, he, rfl⟩), q⟩
  have l0 : ss0.length = n := h0.length.symm.trans lv
  refine wpAny_bind (wpAny_newList ?_ (by rw [lv, sizeLine_eq]; omega))
  have hoL : (s1.heap.push (seqObj "list" vs.toArray 0)).get? s1.heap.objs.size = some (seqObj "list" vs.toArray 0) := Heap.get?_push_size _ rfl
  refine wpAny_bind (wpAny_holding (wpAny_call_entry slot_list_sort ⟨_, hoL, rfl⟩ entry_list_sort (list_sort_treeK strKind_oneLt hoL h0.keysOf (fun v₁ v₂ rest e => keyKind_strs (by rw [← e]; exact h0)) (by rw [lv]; exact h64) fun st' a1 a2 => ⟨_, rfl, ?_⟩) (args_list_sort _)))
  obtain ⟨ss, b1, b2, b3⟩ := sorted_out_str h0 a1 a2
  obtain ⟨c, hc⟩ := sortedHeap_at (vs := vs) (out := (arrOf st').map (·.2)) hoL
  refine wpAny_pure ⟨_, rfl, hQ _ s1.heap.objs.size _ c ss (fun b u e => ?_) g1 o1 hz hc b1 b3 (b2.nodup_iff.mpr (strsAre_apart h0 ap)) (fun k => by rw [b2.mem_iff, m0 k]) (b2.length_eq.trans l0)⟩
  have q := k1 b u e
  have lt := Heap.lt_size q
  show (sortedHeap (s1.heap.push (seqObj "list" vs.toArray 0)) s1.heap.objs.size vs _).get? b = some u
  rw [sortedHeap_old (Nat.ne_of_lt lt) (by rw [size_push']; exact Nat.lt_succ_of_lt lt)]
  exact Heap.get?_push_of_some _ q
end
/-! ### sorted(set(e)), len(set(e)) of texts -/
def tSortSet (K : PySem.W.Frag) (ta : TE) : TE := fun σ H Q => ta σ H fun x H1 => ∃ (l : Addr) (xs : List Str), x = .ref l ∧ SqL K H1 l (xs.map V.str) ∧ xs.length < 64 ∧
  ∀ (ys : List Str) (p : Addr), sortedS ys = true → ys.Nodup → (∀ k, k ∈ ys ↔ k ∈ xs) → H1 p = none → Q (.ref p) (upd H1 p (.lst (ys.map V.str)))
def tLenSetS (K : PySem.W.Frag) (ta : TE) : TE := fun σ H Q => ta σ H fun x H1 => ∃ (l : Addr) (xs : List Str), x = .ref l ∧ SqL K H1 l (xs.map V.str) ∧ xs.length < 64 ∧
  ∀ n : Nat, (∀ ys : List Str, ys.Nodup → (∀ k, k ∈ ys ↔ k ∈ xs) → ys.length = n) → Q (.int n) H1
section
variable {X : Cx}
theorem set_of_texts {pins : List (Addr × Obj)} {σ : L2.St} {H : Hp} {s : Shared} {l : Addr} {xs : List Str} {Q : Value → Shared → Prop} (I : Inv X pins σ H s) (hc : X.calm = true) (hq : SqL X.K H l (xs.map V.str)) (h64 : xs.length < 64)
    (h : ∀ (s2 : Shared) (c : Nat), SetG X.w (PySem.strKind X.prog X.w) s2.heap s.heap.objs.size (fun j => decide (j ∈ xs)) c → c ≤ xs.length → Inv X pins σ H s2 → Q (.ref s.heap.objs.size) s2) :
    wpAny (model X.prog X.w) X.A (call (.type "set") [.ref l]) Q X.xe s := by
  obtain ⟨its, r, pl, hz⟩ := I.list hq
  have hs := r.strs
  have hl : its.toArray.size = xs.length := by rw [List.size_toArray, ← r.length, List.length_map]
  refine call_setG (knd := PySem.strKind X.prog X.w) (I.ok.hd hc) pl.isList hl (by show xs.length + 1 < 4096; omega) (fun i v hv => ?_) fun h' tk c R hc' hk => h { s with heap := h', toks := tk } c R hc' (I.kept hk)
  obtain ⟨y, t, rfl, hy⟩ := hs.item i v (by simpa using hv)
  exact ⟨y, hy, by simp [PySem.strKind, Value.isStrOf], rfl⟩
theorem pe_sortSet {a : Expr} {ta : TE} {p p2 q pos : Pos} (hc : X.calm = true) (hg : Gl X "sorted") (hm : X.mg "sorted" = none) (hg2 : Gl X "set") (hm2 : X.mg "set" = none) (ha : PE X a ta)
    (na : starEach [a] X.env = (false, eval a X.env) :: starEach [] X.env := by rfl) : PE X (.Call (.Name "sorted" p) [.Call (.Name "set" p2) [a] [] q] [] pos) (tSortSet X.K ta) := by
  refine ⟨fun pins s σ H Q I h => ?_⟩
  refine Call_ (ld_blt I hg hm boot_sorted ?_)
  refine PyProof.Rows.callWith_builtin1 (PyProof.Rows.args_cons ?_ rfl) rfl rfl
  refine Call_ (ld_blt I hg2 hm2 boot_set ?_)
  refine PyProof.Rows.callWith_type1 (PyProof.Rows.args_cons (thn (ha.run pins s σ H _ I h) fun v s1 ⟨x, H1, I1, r1, q1⟩ => PyProof.Rows.args_nil ?_) na) na rfl
  obtain ⟨l, xs, rfl, hq, h64, q1⟩ := q1
  cases r1
  refine set_of_texts I1 hc hq h64 fun s2 c R hc' I2 => PyProof.Rows.args_nil ?_
  refine sorted_setG R (I2.ok.hd hc) (by omega) fun s' p out e ss k g o hz hp hS b1 b2 b3 b4 => ?_
  have hlen : (ss.map V.str).length ≤ sizeLine := by rw [List.length_map, sizeLine_eq]; omega
  have hn : H1 p = none := I2.hok.fresh hz
  have J : Inv X pins σ (upd H1 p (.lst (ss.map V.str))) { s2 with heap := s'.heap, gens := s'.gens, drawn := s'.drawn, toks := s'.toks } :=
    I2.call (ch := []) (Un.laid k hz hn) (I2.hok.laid k hz ⟨hlen, out.toList, e, vals_of_strs hS, hp⟩) (by rw [g]; exact I2.bare) (fun _ z => nomatch z)
  have es : s' = { s2 with heap := s'.heap, gens := s'.gens, drawn := s'.drawn, toks := s'.toks } := by
    cases s'
    cases s2
    cases o
    rfl
  rw [es]
  exact ⟨.ref p, _, J, rfl, q1 ss p b1 b2 (fun k => by rw [b3 k]; exact decide_eq_true_iff) hn⟩
theorem pe_lenSetS {a : Expr} {ta : TE} {p p2 q pos : Pos} (hc : X.calm = true) (hg : Gl X "len") (hm : X.mg "len" = none) (hg2 : Gl X "set") (hm2 : X.mg "set" = none) (ha : PE X a ta)
    (na : starEach [a] X.env = (false, eval a X.env) :: starEach [] X.env := by rfl) : PE X (.Call (.Name "len" p) [.Call (.Name "set" p2) [a] [] q] [] pos) (tLenSetS X.K ta) := by
  refine ⟨fun pins s σ H Q I h => ?_⟩
  refine Call_ (ld_blt I hg hm boot_len ?_)
  refine PyProof.Rows.callWith_builtin1 (PyProof.Rows.args_cons ?_ rfl) rfl rfl
  refine Call_ (ld_blt I hg2 hm2 boot_set ?_)
  refine PyProof.Rows.callWith_type1 (PyProof.Rows.args_cons (thn (ha.run pins s σ H _ I h) fun v s1 ⟨x, H1, I1, r1, q1⟩ => PyProof.Rows.args_nil ?_) na) na rfl
  obtain ⟨l, xs, rfl, hq, h64, q1⟩ := q1
  cases r1
  refine set_of_texts I1 hc hq h64 fun s2 c R hc' I2 => PyProof.Rows.args_nil ?_
  obtain ⟨o, es, ep, t, ho, hex, hd, G0, hb, hf, hn, tk'⟩ := R
  obtain ⟨ss0, h0⟩ := strs_of_vals (es.toList.map (·.2)) fun v hv => by
    obtain ⟨e, he, q⟩ := List.mem_map.mp hv
    obtain ⟨⟨k, hk, _⟩, _⟩ := G0.el e he
    obtain ⟨t, ht⟩ := Value.isStrOf_shape hk
    exact ⟨k, t, by rw [← q]; exact ht⟩
  have nd := strsAre_apart h0 (List.pairwise_map.mpr G0.ap)
  have m0 : ∀ k, k ∈ ss0 ↔ k ∈ xs := fun k => by
    rw [strsAre_mem h0 k, ← decide_eq_true_iff (p := k ∈ xs), G0.me k]
    constructor
    · rintro ⟨v, hv, q⟩
      obtain ⟨e, he, rfl⟩ := List.mem_map.mp hv
      exact ⟨e, he, q⟩
    · rintro ⟨e, he, q⟩
      exact ⟨e.2, List.mem_map.mpr ⟨e, he, rfl⟩, q⟩
  have l0 : ss0.length = c := h0.length.symm.trans (by rw [List.length_map, Array.length_toList]; exact hn)
  refine call_len_set ho hex hd hf (by rw [hn]; omega) ⟨.int c, H1, I2.tok _, ⟨_, by rw [hn]⟩, q1 c fun ys y1 y2 => ?_⟩
  have pm : ys.Perm ss0 := (List.perm_ext_iff_of_nodup y1 nd).mpr fun k => (y2 k).trans (m0 k).symm
  exact pm.length_eq.trans l0
end
end S

namespace S
open PySem PySem.Spec L2 PyProof.Rows
open G (Ex Gr ex_l ex_t)
/-- a list without what stands in it again -/
def ded : List Str → List Str
  | [] => []
  | x :: xs => if x ∈ xs then ded xs else x :: ded xs
theorem mem_ded {k : Str} : ∀ {xs : List Str}, k ∈ ded xs ↔ k ∈ xs
  | [] => Iff.rfl
  | x :: xs => by
    unfold ded
    by_cases h : x ∈ xs
    · rw [if_pos h, mem_ded, List.mem_cons]
      exact ⟨.inr, fun z => z.elim (fun e => e ▸ h) id⟩
    · rw [if_neg h, List.mem_cons, List.mem_cons, mem_ded]
theorem nodup_ded : ∀ xs : List Str, (ded xs).Nodup
  | [] => List.nodup_nil
  | x :: xs => by
    unfold ded
    by_cases h : x ∈ xs
    · rw [if_pos h]; exact nodup_ded xs
    · rw [if_neg h]; exact List.nodup_cons.mpr ⟨fun z => h (mem_ded.mp z), nodup_ded xs⟩
def srtD (x : D) : Option D := (itemsL x).bind fun ds => (strsO ds).bind fun xs => if xs.length < 64 then some (.lst ((sortS (ded xs)).map D.str)) else none
def lnsD (x : D) : Option D := (itemsL x).bind fun ds => (strsO ds).bind fun xs => if xs.length < 64 then some (.int (ded xs).length) else none
def sUnA (f : D → Option D) (a : Sg → Rs U) : Sg → Rs U := fun Γ => (a Γ).bind fun x Γ1 => ofA ((dr Γ1.mm x).bind f) Γ1
@[simp ↓] theorem sUnA_ev (f : D → Option D) (a : Sg → Rs U) (Γ : Sg) : sUnA f a Γ = (a Γ).bind fun x Γ1 => ofA ((dr Γ1.mm x).bind f) Γ1 := rfl
def UnF (K : PySem.W.Frag) (r : V → Hp → VK → Prop) (f : D → Option D) : Prop := ∀ x d, f x = some d → ∀ (I H : Hp) (u : V), Ex I H → RpL K I H u x → ∀ Q : VK, (∀ a o, H a = none → MRp K I o d → Q (.ref a) (upd H a o)) → r u H Q
theorem UnF.s {K : PySem.W.Frag} {r : V → Hp → VK → Prop} {f : D → Option D} (h : UnF K r f) : UnS K r f := fun x d e I H u ex rr Q q => h x d e I H u ex rr Q fun a o hn ro => by
  have g := Gr.new (m := []) (o := o) ex hn
  exact q _ _ _ g ((ro.mono g.i).rp upd_same)
def rSrt (K : PySem.W.Frag) : V → Hp → VK → Prop := fun x H1 Q => ∃ (l : Addr) (xs : List Str), x = .ref l ∧ SqL K H1 l (xs.map V.str) ∧ xs.length < 64 ∧
  ∀ (ys : List Str) (p : Addr), sortedS ys = true → ys.Nodup → (∀ k, k ∈ ys ↔ k ∈ xs) → H1 p = none → Q (.ref p) (upd H1 p (.lst (ys.map V.str)))
def rLns (K : PySem.W.Frag) : V → Hp → VK → Prop := fun x H1 Q => ∃ (l : Addr) (xs : List Str), x = .ref l ∧ SqL K H1 l (xs.map V.str) ∧ xs.length < 64 ∧
  ∀ n : Nat, (∀ ys : List Str, ys.Nodup → (∀ k, k ∈ ys ↔ k ∈ xs) → ys.length = n) → Q (.int n) H1
theorem itemsL_ld {d : D} {ds : List D} (h : itemsL d = some ds) : LD d ds := by
  cases d <;> cases h
  · exact .lst
  · exact .fl
theorem strsO_is : ∀ {ds : List D} {xs : List Str}, strsO ds = some xs → ds = xs.map D.str
  | [], xs, h => by cases h; rfl
  | d :: ds, xs, h => by
    cases d <;> first | cases h | skip
    rename_i b
    cases e : strsO ds with
    | none => rw [strsO, e] at h; cases h
    | some ys =>
      rw [strsO, e] at h
      cases h
      rw [strsO_is e]
      rfl
theorem uf_srt {K : PySem.W.Frag} : UnF K (rSrt K) srtD := fun x d e I H u ex rr Q q => by
  unfold srtD at e
  obtain ⟨ds, h1, e⟩ := Option.bind_eq_some_iff.mp e
  obtain ⟨xs, h2, e⟩ := Option.bind_eq_some_iff.mp e
  by_cases h64 : xs.length < 64
  · rw [if_pos h64] at e
    cases e
    obtain ⟨a, vs, rfl, hq, hr⟩ := rr.l ex (itemsL_ld h1)
    rw [strsO_is h2] at hr
    rw [rps_strs hr] at hq
    refine ⟨a, xs, rfl, hq, h64, fun ys p y1 y2 y3 hn => ?_⟩
    have pm : ys.Perm (ded xs) := (List.perm_ext_iff_of_nodup y2 (nodup_ded xs)).mpr fun k => (y3 k).trans mem_ded.symm
    rw [sorted_is pm y1]
    exact q p _ hn (.lst rps_of_strs)
  · rw [if_neg h64] at e; cases e
theorem us_lns {K : PySem.W.Frag} : UnS K (rLns K) lnsD := fun x d e I H u ex rr Q q => by
  unfold lnsD at e
  obtain ⟨ds, h1, e⟩ := Option.bind_eq_some_iff.mp e
  obtain ⟨xs, h2, e⟩ := Option.bind_eq_some_iff.mp e
  by_cases h64 : xs.length < 64
  · rw [if_pos h64] at e
    cases e
    obtain ⟨a, vs, rfl, hq, hr⟩ := rr.l ex (itemsL_ld h1)
    rw [strsO_is h2] at hr
    rw [rps_strs hr] at hq
    refine ⟨a, xs, rfl, hq, h64, fun n hn => ?_⟩
    rw [← hn (ded xs) (nodup_ded xs) fun k => mem_ded]
    exact q I H _ (Gr.refl ex) (.int _)
  · rw [if_neg h64] at e; cases e
section
variable {K : PySem.W.Frag} {W : WX} {ta : TE} {a : Sg → Rs U}
theorem se_unA {r : V → Hp → VK → Prop} {f : D → Option D} (hr : UnF K r f) (h1 : SE K W ta a) : SE K W (tUn r ta) (sUnA f a) := fun Γ σ m A Q p => by
  refine h1.step A p fun x Γ1 m1 v n1 A1 r1 p1 => ?_
  cases hd : (dr Γ1.mm x).bind f with
  | none => rw [hd] at p1; exact p1.elim
  | some d =>
    rw [hd] at p1
    obtain ⟨x', hx, hd'⟩ := Option.bind_eq_some_iff.mp hd
    refine hr x' d hd' m1.I m1.H v A1.ih (A1.dr r1 hx) Q fun b o hb ho => ?_
    obtain ⟨A2, nx2⟩ := A1.alloc (p := b) (o := o) (x := .p d) hb ⟨A1.ih.free hb, _, upd_same, ho⟩ nofun
    have q := p1 _ (.ref (updA m1.as Γ1.mm.length b Γ1.mm.length)) nx2 A2 (.lc (by rw [List.length_append]; exact Nat.lt_succ_self _))
    rw [updA_same] at q
    exact q
theorem se_sortSet (h : SE K W ta a) : SE K W (tSortSet K ta) (sUn srtD a) := se_un (r := rSrt K) (UnF.s uf_srt) h
theorem se_sortSetA (h : SE K W ta a) : SE K W (tSortSet K ta) (sUnA srtD a) := se_unA (r := rSrt K) uf_srt h
theorem se_lenSet (h : SE K W ta a) : SE K W (tLenSetS K ta) (sUn lnsD a) := se_un (r := rLns K) us_lns h
end
section
variable {X : Cx} (K : PySem.W.Frag) {a : Expr} {ta : TE} {p p2 q pos : Pos}
theorem k_sortSet (hc : X.calm = true) (hg : Gl X "sorted") (hm : X.mg "sorted" = none) (hg2 : Gl X "set") (hm2 : X.mg "set" = none) (ha : PE X a ta)
    (na : starEach [a] X.env = (false, eval a X.env) :: starEach [] X.env := by rfl) (hK : X.K = K := by rfl) : PE X (.Call (.Name "sorted" p) [.Call (.Name "set" p2) [a] [] q] [] pos) (tSortSet K ta) := by
  subst hK; exact pe_sortSet hc hg hm hg2 hm2 ha na
theorem k_lenSet (hc : X.calm = true) (hg : Gl X "len") (hm : X.mg "len" = none) (hg2 : Gl X "set") (hm2 : X.mg "set" = none) (ha : PE X a ta)
    (na : starEach [a] X.env = (false, eval a X.env) :: starEach [] X.env := by rfl) (hK : X.K = K := by rfl) : PE X (.Call (.Name "len" p) [.Call (.Name "set" p2) [a] [] q] [] pos) (tLenSetS K ta) := by
  subst hK; exact pe_lenSetS hc hg hm hg2 hm2 ha na
end
end S

namespace S
open PySem PySem.Spec L2
open G (Ex Gr ex_l ex_t)
/-! ### x & y, x >> y -/
def andD (x y : D) : Option D := match x, y with
  | .int i, .int j => some (.int (Builtin.bitAnd i j))
  | _, _ => none
def shrD (x y : D) : Option D := match x, y with
  | .int i, .int j => if 0 ≤ j then some (.int (i / 2 ^ j.toNat)) else none
  | _, _ => none
@[simp] theorem andD_int (i j : Int) : andD (.int i) (.int j) = some (.int (Builtin.bitAnd i j)) := rfl
theorem shrD_int {i j : Int} (h : 0 ≤ j) : shrD (.int i) (.int j) = some (.int (i / 2 ^ j.toNat)) := if_pos h
section
variable {K : PySem.W.Frag} {W : WX} {te : TE} {e : Sg → Rs U}
theorem bs_and : BinS K (rI0 fun i j => .int (Builtin.bitAnd i j)) andD := fun x y d hf I H u v e r1 r2 Q q => by
  unfold andD at hf
  split at hf
  · cases hf
    rw [r1.int, r2.int]
    exact ⟨_, _, rfl, rfl, q I H _ (Gr.refl e) (.int _)⟩
  · cases hf
theorem bs_shr : BinS K (rI (fun _ j => 0 ≤ j) fun i j => .int (i / 2 ^ j.toNat)) shrD := fun x y d hf I H u v e r1 r2 Q q => by
  unfold shrD at hf
  split at hf
  · split at hf
    · rename_i hj
      cases hf
      rw [r1.int, r2.int]
      exact ⟨_, _, rfl, rfl, hj, q I H _ (Gr.refl e) (.int _)⟩
    · cases hf
  · cases hf
/-! ### a list of lists that change becomes data -/
def fzAll : List U → Sg → Option Sg
  | [], Γ => some Γ
  | .d _ :: us, Γ => fzAll us Γ
  | .lc k :: us, Γ => match Γ.mm[k]? with
    | some (.p d) => fzAll us (fz k d Γ)
    | _ => none
def sFzN (e : Sg → Rs U) : Sg → Rs U := fun Γ => (e Γ).bind fun u Γ1 => match u with
  | .d d => .ok (.d d) Γ1
  | .lc j => match Γ1.mm[j]? with
    | some (.n us) => (match fzAll us Γ1 with
      | some Γ2 => (match Γ2.mm[j]? with
        | some (.n us2) => (match pus us2 with
          | some ds => .ok (.d (.lst ds)) (fz j (.lst ds) ⟨Γ2.sl, Γ2.mm.set j (.p (.lst ds))⟩)
          | none => .st)
        | _ => .st)
      | none => .st)
    | _ => .st
@[simp ↓] theorem sFzN_ev (e : Sg → Rs U) (Γ : Sg) : sFzN e Γ = (e Γ).bind fun u Γ1 => match u with
  | .d d => .ok (.d d) Γ1
  | .lc j => match Γ1.mm[j]? with
    | some (.n us) => (match fzAll us Γ1 with
      | some Γ2 => (match Γ2.mm[j]? with
        | some (.n us2) => (match pus us2 with
          | some ds => .ok (.d (.lst ds)) (fz j (.lst ds) ⟨Γ2.sl, Γ2.mm.set j (.p (.lst ds))⟩)
          | none => .st)
        | _ => .st)
      | none => .st)
    | _ => .st := rfl
theorem At.fzAll {σ : L2.St} : ∀ {us : List U} {Γ Γ' : Sg} {m : Wd}, At K σ m Γ → S.fzAll us Γ = some Γ' → ∃ I', At K σ ⟨I', m.H, m.as⟩ Γ' ∧ Nx m Γ.mm ⟨I', m.H, m.as⟩ Γ'.mm
  | [], _, _, m, A, h => by cases h; exact ⟨m.I, A, .refl⟩
  | .d _ :: us, _, _, _, A, h => At.fzAll (us := us) A h
  | .lc k :: us, Γ, Γ', m, A, h => by
    rw [S.fzAll] at h
    cases q : Γ.mm[k]? with
    | none => rw [q] at h; cases h
    | some c =>
      rw [q] at h
      cases c with
      | p d =>
        obtain ⟨I2, A2, r2, n2⟩ := A.fz q
        obtain ⟨I3, A3, n3⟩ := At.fzAll (us := us) A2 h
        exact ⟨I3, A3, n2.trans n3⟩
      | n _ => cases h
      | gone => cases h
theorem At.nlst {σ : L2.St} {Γ : Sg} {m : Wd} (A : At K σ m Γ) {j : Nat} {us : List U} {ds : List D} (h : Γ.mm[j]? = some (.n us)) (hu : pus us = some ds) : At K σ m ⟨Γ.sl, Γ.mm.set j (.p (.lst ds))⟩ ∧ Nx m Γ.mm m (Γ.mm.set j (.p (.lst ds))) := by
  obtain ⟨n0, vs, ho, ro⟩ := A.mm j _ h
  have e : upd m.H (m.as j) (.lst vs) = m.H := by
    funext b
    by_cases hb : b = m.as j
    · rw [hb, upd_same, ho]
    · rw [upd_ne hb]
  have q := A.put (o := .lst vs) (y := .p (.lst ds)) h nofun nofun ⟨n0, _, upd_same, .lst (RUs.pu ro hu)⟩
  rw [e] at q
  exact q
theorem se_fzN (h : SE K W te e) : SE K W te (sFzN e) := fun Γ σ m A Q p => by
  refine h.step A p fun u Γ1 m1 v n1 A1 r1 p1 => ?_
  cases r1 with
  | d r => exact p1 m1 v .refl A1 (.d r)
  | @lc j hj =>
    dsimp only at p1
    cases q : Γ1.mm[j]? with
    | none => rw [q] at p1; exact p1.elim
    | some c =>
      rw [q] at p1
      cases c with
      | p _ => exact p1.elim
      | gone => exact p1.elim
      | n us =>
        dsimp only at p1
        cases hf : fzAll us Γ1 with
        | none => rw [hf] at p1; exact p1.elim
        | some Γ2 =>
          rw [hf] at p1
          dsimp only at p1
          obtain ⟨I2, A2, n2⟩ := A1.fzAll hf
          cases q2 : Γ2.mm[j]? with
          | none => rw [q2] at p1; exact p1.elim
          | some c2 =>
            rw [q2] at p1
            cases c2 with
            | p _ => exact p1.elim
            | gone => exact p1.elim
            | n us2 =>
              dsimp only at p1
              cases hu : pus us2 with
              | none => rw [hu] at p1; exact p1.elim
              | some ds =>
                rw [hu] at p1
                obtain ⟨A3, n3⟩ := A2.nlst q2 hu
                have hj2 := (List.getElem?_eq_some_iff.mp q2).1
                obtain ⟨I4, A4, r4, n4⟩ := A3.fz (j := j) (d := .lst ds) (by rw [List.getElem?_set_self hj2])
                exact p1 ⟨I4, m1.H, m1.as⟩ _ ((n2.trans n3).trans n4) A4 (.d r4)
end
end S

namespace S
open PySem PySem.Spec L2
section
variable {P : Program} {w : World} {K : PySem.W.Frag} {mg : Str → Option Value} {base : Heap} {n m : String} {k j : Nat} {ps : List Str} {α : Type} {sp : α → Sp} {F : α} {tbl : List (String × α)}
theorem MtT.nil : MtT P w K mg base m sp [] j := fun n F h => by cases h
theorem MtT.cons (hk : k ≤ j) (h : MtC P w K mg base n m k ps (sp F)) (t : MtT P w K mg base m sp tbl j) : MtT P w K mg base m sp ((n, F) :: tbl) j := fun n' F' e => by
  rw [List.lookup] at e
  cases z : n' == n with
  | true =>
    rw [z] at e
    cases e
    rw [show n' = n from by simpa using z]
    exact ⟨k, ps, hk, h⟩
  | false =>
    rw [z] at e
    exact t n' F' e
end
end S

namespace S
open PySem PySem.Spec L2
/-! ### loops by steps -/
def fStep (fg : List Nat) (tg : U → Sg → Option Sg) (body : Sg → Rs Fl) (x : D) (Γ : Sg) : Option Sg := match tg (.d x) Γ with
  | none => none
  | some Γ1 => match body Γ1 with
    | .ok .nx Γ2 => some (Γ2.fg fg)
    | .ok .ct Γ2 => some (Γ2.fg fg)
    | _ => none
section
variable {fg : List Nat} {tg : U → Sg → Option Sg} {body : Sg → Rs Fl}
theorem forL_one {x : D} {xs : List D} {Γ Γ' : Sg} (h : fStep fg tg body x (Γ.fg fg) = some Γ') : ∃ Γ2, Γ2.fg fg = Γ' ∧ forL fg tg body (x :: xs) Γ = forL fg tg body xs Γ2 := by
  unfold fStep at h
  rw [forL]
  cases ht : tg (.d x) (Γ.fg fg) with
  | none => rw [ht] at h; cases h
  | some Γ1 =>
    rw [ht] at h
    dsimp only at h ⊢
    cases hb : body Γ1 with
    | st => rw [hb] at h; cases h
    | ex e g => rw [hb] at h; cases h
    | ok f Γ2 =>
      rw [hb] at h
      cases f <;> first | (cases h; done) | (cases h; exact ⟨Γ2, rfl, rfl⟩)
theorem forL_nil {Γ : Sg} : forL fg tg body [] Γ = .ok .nx (Γ.fg fg) := rfl
/-- a loop that folds -/
theorem forL_fold {β : Type} (enc : β → Sg) (step : β → D → β) (Inv : List D → β → Prop) : ∀ {xs : List D} {b : β} {Γ : Sg}, (∀ (ys zs : List D) (x : D) (b : β), xs = ys ++ x :: zs → Inv ys b → fStep fg tg body x (enc b) = some (enc (step b x)) ∧ Inv (ys ++ [x]) (step b x)) → Γ.fg fg = enc b → Inv [] b →
    forL fg tg body xs Γ = .ok .nx (enc (xs.foldl step b)) ∧ Inv xs (xs.foldl step b) := by
  intro xs b Γ h e i
  suffices H : ∀ (zs ys : List D) (b : β) (Γ : Sg), xs = ys ++ zs → Γ.fg fg = enc b → Inv ys b → forL fg tg body zs Γ = .ok .nx (enc (zs.foldl step b)) ∧ Inv xs (zs.foldl step b) from H xs [] b Γ rfl e i
  intro zs
  induction zs with
  | nil =>
    intro ys b Γ hx e i
    rw [List.append_nil] at hx
    subst hx
    exact ⟨by rw [forL_nil, e]; rfl, i⟩
  | cons z zs ih =>
    intro ys b Γ hx e i
    obtain ⟨h1, h2⟩ := h ys zs z b hx i
    rw [← e] at h1
    obtain ⟨Γ2, e2, h3⟩ := forL_one (xs := zs) h1
    rw [h3]
    exact ih (ys ++ [z]) (step b z) Γ2 (by rw [hx]; simp) e2 h2
/-- a loop that only looks -/
theorem forL_keep {Γ0 : Sg} {xs : List D} {Γ : Sg} (h : ∀ x ∈ xs, fStep fg tg body x Γ0 = some Γ0) (e : Γ.fg fg = Γ0) : forL fg tg body xs Γ = .ok .nx Γ0 :=
  (forL_fold (fun _ : Unit => Γ0) (fun _ _ => ()) (fun _ _ => True) (b := ()) (fun ys zs x b hx _ => ⟨h x (by rw [hx]; simp), trivial⟩) e trivial).1
/-- a loop that keeps something -/
theorem forL_st {xs : List D} (P : Sg → Prop) (h : ∀ x ∈ xs, ∀ Γ, P Γ → ∃ Γ', fStep fg tg body x Γ = some Γ' ∧ P Γ') {Γ : Sg} (h0 : P (Γ.fg fg)) : ∃ Γ', forL fg tg body xs Γ = .ok .nx Γ' ∧ P Γ' := by
  induction xs generalizing Γ with
  | nil => exact ⟨_, rfl, h0⟩
  | cons x xs ih =>
    obtain ⟨Γ1, h1, h2⟩ := h x (List.mem_cons_self ..) _ h0
    obtain ⟨Γ2, e2, h3⟩ := forL_one (xs := xs) h1
    rw [h3]
    exact ih (fun y hy => h y (List.mem_cons_of_mem _ hy)) (by rw [e2]; exact h2)
end
end S

namespace S
open PySem PySem.Spec L2
section
variable {fg : List Nat} {tg : U → Sg → Option Sg} {body : Sg → Rs Fl}
/-- a loop that folds, over a list of one kind -/
theorem forL_map {α β : Type} (g : α → D) (enc : β → Sg) (step : β → α → β) (Inv : List α → β → Prop) {as : List α} {b : β} {Γ : Sg}
    (h : ∀ (ys zs : List α) (a : α) (b : β), as = ys ++ a :: zs → Inv ys b → fStep fg tg body (g a) (enc b) = some (enc (step b a)) ∧ Inv (ys ++ [a]) (step b a)) (e : Γ.fg fg = enc b) (i : Inv [] b) :
    forL fg tg body (as.map g) Γ = .ok .nx (enc (as.foldl step b)) ∧ Inv as (as.foldl step b) := by
  suffices H : ∀ (zs ys : List α) (b : β) (Γ : Sg), as = ys ++ zs → Γ.fg fg = enc b → Inv ys b → forL fg tg body (zs.map g) Γ = .ok .nx (enc (zs.foldl step b)) ∧ Inv as (zs.foldl step b) from H as [] b Γ rfl e i
  intro zs
  induction zs with
  | nil =>
    intro ys b Γ hx e i
    rw [List.append_nil] at hx
    subst hx
    exact ⟨by rw [List.map_nil, forL_nil, e]; rfl, i⟩
  | cons z zs ih =>
    intro ys b Γ hx e i
    obtain ⟨h1, h2⟩ := h ys zs z b hx i
    rw [← e] at h1
    obtain ⟨Γ2, e2, h3⟩ := forL_one (xs := zs.map g) h1
    rw [List.map_cons, h3]
    exact ih (ys ++ [z]) (step b z) Γ2 (by rw [hx]; simp) e2 h2
theorem forL_mapK {α : Type} (g : α → D) {Γ0 : Sg} {as : List α} {Γ : Sg} (h : ∀ a ∈ as, fStep fg tg body (g a) Γ0 = some Γ0) (e : Γ.fg fg = Γ0) : forL fg tg body (as.map g) Γ = .ok .nx Γ0 :=
  forL_keep (fun x hx => by
    obtain ⟨a, ha, rfl⟩ := List.mem_map.mp hx
    exact h a ha) e
end
end S

namespace S
open PySem PySem.Spec L2
section
variable {fg : List Nat} {tg : U → Sg → Option Sg} {body : Sg → Rs Fl}
/-- a loop by what holds behind so many -/
theorem forL_rel {α : Type} (g : α → D) (Inv : List α → Sg → Prop) {as : List α} {Γ : Sg}
    (h : ∀ (ys zs : List α) (a : α) (Γ : Sg), as = ys ++ a :: zs → Inv ys Γ → ∃ Γ', fStep fg tg body (g a) Γ = some Γ' ∧ Inv (ys ++ [a]) Γ') (i : Inv [] (Γ.fg fg)) :
    ∃ Γ', forL fg tg body (as.map g) Γ = .ok .nx Γ' ∧ Inv as Γ' := by
  suffices H : ∀ (zs ys : List α) (Γ : Sg), as = ys ++ zs → Inv ys (Γ.fg fg) → ∃ Γ', forL fg tg body (zs.map g) Γ = .ok .nx Γ' ∧ Inv as Γ' from H as [] Γ rfl i
  intro zs
  induction zs with
  | nil =>
    intro ys Γ hx i
    rw [List.append_nil] at hx
    subst hx
    exact ⟨_, rfl, i⟩
  | cons z zs ih =>
    intro ys Γ hx i
    obtain ⟨Γ1, h1, h2⟩ := h ys zs z _ hx i
    obtain ⟨Γ2, e2, h3⟩ := forL_one (xs := zs.map g) h1
    rw [List.map_cons, h3]
    exact ih (ys ++ [z]) Γ2 (by rw [hx]; simp) (by rw [e2]; exact h2)
end
/-- freezing all cells of a list of cells -/
theorem fzAll_ok {j : Nat} : ∀ {ks : List Nat} {ds pre : List D} {Γ : Sg}, ks.Nodup → j ∉ ks → ks.length = ds.length → (∀ (i : Nat) (k : Nat) (d : D), ks[i]? = some k → ds[i]? = some d → Γ.mm[k]? = some (.p d)) → Γ.mm[j]? = some (.n (pre.map .d ++ ks.map .lc)) →
    ∃ Γ2, fzAll (ks.map .lc) Γ = some Γ2 ∧ Γ2.mm[j]? = some (.n ((pre ++ ds).map .d))
  | [], [], pre, Γ, _, _, _, _, hj => ⟨Γ, rfl, by simpa using hj⟩
  | [], _ :: _, _, _, _, _, hl, _, _ => by cases hl
  | _ :: _, [], _, _, _, _, hl, _, _ => by cases hl
  | k :: ks, d :: ds, pre, Γ, hn, hjk, hl, hc, hj => by
    obtain ⟨n1, n2⟩ := List.nodup_cons.mp hn
    have hk := hc 0 k d rfl rfl
    have jk : j ≠ k := fun e => hjk (e ▸ List.mem_cons_self ..)
    have fm : ∀ i, i ≠ k → ∀ c, Γ.mm[i]? = some c → (fz k d Γ).mm[i]? = some (fzC k d c) := fun i hi c h => by
      unfold fz
      dsimp only
      rw [List.getElem?_set_ne (Ne.symm hi), List.getElem?_map, h]
      rfl
    have ml : ∀ l : List Nat, k ∉ l → (l.map U.lc).map (fzU k d) = l.map U.lc := by
      intro l hl
      rw [List.map_map]
      refine List.map_congr_left fun a ha => ?_
      have : a ≠ k := fun e => hl (e ▸ ha)
      simp [fzU, this]
    have md : ∀ l : List D, (l.map U.d).map (fzU k d) = l.map U.d := by
      intro l
      rw [List.map_map]
      exact List.map_congr_left fun a _ => rfl
    have hj' := fm j jk _ hj
    simp only [fzC, List.map_append, List.map_cons, md, ml ks n1] at hj'
    have e0 : fzU k d (.lc k) = .d d := by simp [fzU]
    rw [e0] at hj'
    obtain ⟨Γ2, h1, h2⟩ := fzAll_ok (ks := ks) (ds := ds) (pre := pre ++ [d]) (Γ := fz k d Γ) n2 (fun z => hjk (List.mem_cons_of_mem _ z)) (by simpa using hl) (fun i k' d' a b => by
      have hk' : k' ≠ k := fun e => n1 (e ▸ List.mem_of_getElem? a)
      exact fm k' hk' _ (hc (i + 1) k' d' (by simpa using a) (by simpa using b))) (by simpa using hj')
    refine ⟨Γ2, ?_, by simpa using h2⟩
    rw [List.map_cons, fzAll, hk]
    exact h1
end S

namespace S
open PySem PySem.Spec L2
@[simp ↓] theorem sMt_ev (f : D → List D → Option (D × D)) (recv : Sg → Rs U) (args : Sg → Rs (List U)) (Γ : Sg) : sMt f recv args Γ = (recv Γ).bind fun u Γ1 => if isLc Γ1.mm u then (args Γ1).bind fun us Γ2 => (match u with
  | .lc j => (match Γ2.mm[j]? with
    | some (.p x) => (match (pus us).bind (f x) with
      | some (d, y) => .ok (.d d) ⟨Γ2.sl, Γ2.mm.set j (.p y)⟩
      | none => .st)
    | _ => .st)
  | _ => .st) else .st := rfl
@[simp ↓] theorem sLstN_ev (a : Sg → Rs (List U)) (Γ : Sg) : sLstN a Γ = (a Γ).bind fun xs Γ1 => if xs.length ≤ sizeLine then .ok (.lc Γ1.mm.length) ⟨Γ1.sl, Γ1.mm ++ [.n xs]⟩ else .st := rfl
@[simp ↓] theorem sDTA_ev (Γ : Sg) : sDTA Γ = .ok (.lc Γ.mm.length) ⟨Γ.sl, Γ.mm ++ [.p (.dit [] [])]⟩ := rfl
@[simp ↓] theorem sWhile_ev (fg : List Nat) (fuel : Nat) (t : Sg → Rs Bool) (body : Sg → Rs Fl) (Γ : Sg) : sWhile fg fuel t body Γ = whL fg t body fuel Γ := rfl
theorem enum_zip {α : Type} (g : α → D) (xs : List α) : enumL (xs.map g) = xs.zipIdx.map fun p => .tup [.int p.2, g p.1] := by
  refine List.ext_getElem (by simp [enumL]) fun i h1 h2 => ?_
  simp [enumL]
section
variable {fg : List Nat} {tg : U → Sg → Option Sg} {body : Sg → Rs Fl}
/-- a loop that folds, and more behind it -/
theorem forL_mapA {α β : Type} (g : α → D) (enc : β → Sg) (step : β → α → β) (Inv : List α → β → Prop) {as : List α} {rest : List D} {b : β} {Γ : Sg}
    (h : ∀ (ys zs : List α) (a : α) (b : β), as = ys ++ a :: zs → Inv ys b → fStep fg tg body (g a) (enc b) = some (enc (step b a)) ∧ Inv (ys ++ [a]) (step b a)) (e : Γ.fg fg = enc b) (i : Inv [] b) :
    ∃ Γ2, Γ2.fg fg = enc (as.foldl step b) ∧ forL fg tg body (as.map g ++ rest) Γ = forL fg tg body rest Γ2 ∧ Inv as (as.foldl step b) := by
  suffices H : ∀ (zs ys : List α) (b : β) (Γ : Sg), as = ys ++ zs → Γ.fg fg = enc b → Inv ys b → ∃ Γ2, Γ2.fg fg = enc (zs.foldl step b) ∧ forL fg tg body (zs.map g ++ rest) Γ = forL fg tg body rest Γ2 ∧ Inv as (zs.foldl step b) from H as [] b Γ rfl e i
  intro zs
  induction zs with
  | nil =>
    intro ys b Γ hx e i
    rw [List.append_nil] at hx
    subst hx
    exact ⟨Γ, e, rfl, i⟩
  | cons z zs ih =>
    intro ys b Γ hx e i
    obtain ⟨h1, h2⟩ := h ys zs z b hx i
    rw [← e] at h1
    obtain ⟨Γ2, e2, h3⟩ := forL_one (xs := zs.map g ++ rest) h1
    rw [List.map_cons, List.cons_append, h3]
    exact ih (ys ++ [z]) (step b z) Γ2 (by rw [hx]; simp) e2 h2
end
end S

namespace S
open PySem PySem.Spec L2

def k_SIDES : List Str := [(Str.ofString "left"), (Str.ofString "right"), (Str.ofString "none")]
def fldO : List (String × String) := [("Grammar", "rules"), ("Grammar", "start"), ("Grammar", "ranks")]
def fldX : List (String × String) := [("NoRule", "found"), ("NoRanks", "found"), ("NoText", "line"), ("NoHead", "head"), ("Doubled", "number"), ("TooMany", "found")]
def exmT : List (String × String × Bool) := [("TableError", "TableError", true), ("TableError", "NoRule", false), ("TableError", "NoRanks", false), ("TableError", "NoText", false), ("TableError", "NoHead", false), ("TableError", "Doubled", false), ("TableError", "TooMany", false), ("NoRule", "TableError", true), ("NoRule", "NoRule", true), ("NoRule", "NoRanks", false), ("NoRule", "NoText", false), ("NoRule", "NoHead", false), ("NoRule", "Doubled", false), ("NoRule", "TooMany", false), ("NoRanks", "TableError", true), ("NoRanks", "NoRule", false), ("NoRanks", "NoRanks", true), ("NoRanks", "NoText", false), ("NoRanks", "NoHead", false), ("NoRanks", "Doubled", false), ("NoRanks", "TooMany", false), ("NoText", "TableError", true), ("NoText", "NoRule", false), ("NoText", "NoRanks", false), ("NoText", "NoText", true), ("NoText", "NoHead", false), ("NoText", "Doubled", false), ("NoText", "TooMany", false), ("NoHead", "TableError", true), ("NoHead", "NoRule", false), ("NoHead", "NoRanks", false), ("NoHead", "NoText", false), ("NoHead", "NoHead", true), ("NoHead", "Doubled", false), ("NoHead", "TooMany", false), ("Doubled", "TableError", true), ("Doubled", "NoRule", false), ("Doubled", "NoRanks", false), ("Doubled", "NoText", false), ("Doubled", "NoHead", false), ("Doubled", "Doubled", true), ("Doubled", "TooMany", false), ("TooMany", "TableError", true), ("TooMany", "NoRule", false), ("TooMany", "NoRanks", false), ("TooMany", "NoText", false), ("TooMany", "NoHead", false), ("TooMany", "Doubled", false), ("TooMany", "TooMany", true)]
def isaT : List (Kd × Kc × Bool) := [(.o "Grammar", .t "list", false), (.x "TableError", .t "list", false), (.x "NoRule", .t "list", false), (.x "NoRanks", .t "list", false), (.x "NoText", .t "list", false), (.x "NoHead", .t "list", false), (.x "Doubled", .t "list", false), (.x "TooMany", .t "list", false), (.o "Grammar", .t "str", false), (.x "TableError", .t "str", false), (.x "NoRule", .t "str", false), (.x "NoRanks", .t "str", false), (.x "NoText", .t "str", false), (.x "NoHead", .t "str", false), (.x "Doubled", .t "str", false), (.x "TooMany", .t "str", false), (.o "Grammar", .t "tuple", false), (.x "TableError", .t "tuple", false), (.x "NoRule", .t "tuple", false), (.x "NoRanks", .t "tuple", false), (.x "NoText", .t "tuple", false), (.x "NoHead", .t "tuple", false), (.x "Doubled", .t "tuple", false), (.x "TooMany", .t "tuple", false)]
def isa : Kd → Kc → Option Bool := isaOf isaT
def L__wall_1 : Sg → Rs Fl :=
    sNx
def B__wall : Sg → Rs Fl :=
    (sWhile [0] 1000000000000 (tB1 (sC (.bl true)))
      L__wall_1)
def F__wall : List D → Rr := defP 1 1 B__wall
def B_is_made_of : Sg → Rs Fl :=
    (sRet (sCb allD (sCons (sLc (iU (sVar 0)) (gN 2) tYes1 (sOp inD (sVar 2) (sVar 1)) [2]) sNil)))
def F_is_made_of : List D → Rr := defP 2 3 B_is_made_of
def B_Grammar_heads_b : Sg → Rs Fl :=
    (sRet (sUn srtD (sLc (iU (sAt fldO fldX "rules" (sVar 0))) (gT 2 (gsC (gN 1) (gsC (gN 2) gsN))) tYes1 (sVar 1) [1, 2])))
def F_Grammar_heads_b : List U → List Cell → Rb := defB 1 3 B_Grammar_heads_b
def L_parted_words_1 : Sg → Rs Fl :=
    (sIf (tB1 (sOp eqD (sVar 2) (sC (.str (Str.ofString "|"))))) (sDrop (sApp (sVar 1) (sLstA sNil)))
      (sDrop (sApp (sIx (sVar 1) (sUn negD (sC (.int 1)))) (sVar 2))))
def B_parted_words : Sg → Rs Fl :=
    (sSeq (sAsg (sLstN (sCons (sLstA sNil) sNil)) (gN 1))
    (sSeq (sFor [0, 2] (iU (sVar 0)) (gN 2)
      L_parted_words_1)
    (sRet (sFzN (sVar 1)))))
def F_parted_words : List D → Rr := defP 1 3 B_parted_words
def B_body_text : Sg → Rs Fl :=
    (sSeq (sIf (tB1 (sOp eqD (sVar 0) (sTup sNil))) (sRet (sC (.str (Str.ofString "~"))))
      sNx)
    (sRet (sM1 joinD (sC (.str (Str.ofString " "))) (sVar 0))))
def F_body_text : List D → Rr := defP 1 1 B_body_text
def B__law_cell : Sg → Rs Fl :=
    (sSeq (sIf (tB1 (sOp ltD (sVar 1) (sCb lenD (sCons (sVar 0) sNil)))) (sRet (sIx (sVar 0) (sVar 1)))
      sNx)
    (sRet (sC (.int 0))))
def F__law_cell : List D → Rr := defP 2 2 B__law_cell
def B__law_stir : Sg → Rs Fl :=
    (sSeq (sAsg (sOp modD (sOp addD (sOp addD (sOp mulD (sOp modD (sVar 0) (sC (.int 2147483647))) (sC (.int 48271))) (sOp mulD (sC (.int 69621)) (sVar 1))) (sC (.int 7))) (sC (.int 2147483647))) (gN 2))
    (sSeq (sAsg (sOp modD (sOp mulD (sVar 2) (sVar 2)) (sC (.int 2147483629))) (gN 2))
    (sRet (sOp modD (sOp addD (sOp addD (sOp mulD (sVar 2) (sVar 2)) (sOp mulD (sC (.int 16807)) (sVar 2))) (sC (.int 11))) (sC (.int 2147483587))))))
def F__law_stir : List D → Rr := defP 2 3 B__law_stir
def B__law_heads : Sg → Rs Fl :=
    (sSeq (sAsg (sC (.str (Str.ofString "ABCDEFGHIJKLMNOPQRSTUVWXYZ"))) (gN 2))
    (sSeq (sAsg (sIx (sLst (sCons (sC (.str (Str.ofString ""))) (sCons (sC (.str (Str.ofString "a"))) (sCons (sC (.str (Str.ofString "x1"))) (sCons (sC (.str (Str.ofString "list0"))) (sCons (sC (.str (Str.ofString "9"))) (sCons (sC (.str (Str.ofString "abcd0"))) sNil))))))) (sOp modD (sOp divD (sVar 0) (sC (.int 26))) (sC (.int 6)))) (gN 3))
    (sRet (sLc (iCa rng1 (sCons (sVar 1) sNil)) (gN 4) tYes1 (sOp addD (sIx (sVar 2) (sOp modD (sOp addD (sVar 0) (sOp mulD (sC (.int 7)) (sVar 4))) (sC (.int 26)))) (sVar 3)) [4]))))
def F__law_heads : List D → Rr := defP 2 5 B__law_heads
def B__law_signs : Sg → Rs Fl :=
    (sSeq (sAsg (sLst (sCons (sC (.str (Str.ofString "a"))) (sCons (sC (.str (Str.ofString "b"))) (sCons (sC (.str (Str.ofString "+"))) (sCons (sC (.str (Str.ofString "*"))) (sCons (sC (.str (Str.ofString "("))) (sCons (sC (.str (Str.ofString ")"))) (sCons (sC (.str (Str.ofString "c"))) (sCons (sC (.str (Str.ofString "id"))) (sCons (sC (.str (Str.ofString "="))) (sCons (sC (.str (Str.ofString "<="))) (sCons (sC (.str (Str.ofString "if"))) (sCons (sC (.str (Str.ofString "0"))) (sCons (sC (.str (Str.ofString "[]"))) (sCons (sC (.str (Str.ofString "else"))) (sCons (sC (.str (Str.ofString ","))) (sCons (sC (.str (Str.ofString "abc123"))) (sCons (sC (.str (Str.ofString "z"))) (sCons (sC (.str (Str.ofString "!"))) sNil))))))))))))))))))) (gN 2))
    (sRet (sLc (iCa rng1 (sCons (sVar 1) sNil)) (gN 3) tYes1 (sIx (sVar 2) (sOp modD (sOp addD (sVar 0) (sVar 3)) (sC (.int 18)))) [3])))
def F__law_signs : List D → Rr := defP 2 4 B__law_signs
def B__law_shape : Sg → Rs Fl :=
    (sSeq (sAsg (sLstA (sCons (sLst (sCons (sTup (sCons (sC (.int 0)) (sCons (sTup (sCons (sC (.int 0)) (sCons (sC (.int 13)) (sCons (sC (.int 1)) sNil)))) sNil))) (sCons (sTup (sCons (sC (.int 0)) (sCons (sTup (sCons (sC (.int 1)) sNil)) sNil))) (sCons (sTup (sCons (sC (.int 1)) (sCons (sTup (sCons (sC (.int 1)) (sCons (sC (.int 14)) (sCons (sC (.int 2)) sNil)))) sNil))) (sCons (sTup (sCons (sC (.int 1)) (sCons (sTup (sCons (sC (.int 2)) sNil)) sNil))) (sCons (sTup (sCons (sC (.int 2)) (sCons (sTup (sCons (sC (.int 11)) (sCons (sC (.int 0)) (sCons (sC (.int 12)) sNil)))) sNil))) (sCons (sTup (sCons (sC (.int 2)) (sCons (sTup (sCons (sC (.int 10)) sNil)) sNil))) sNil))))))) sNil)) (gN 1))
    (sSeq (sDrop (sApp (sVar 1) (sLst (sCons (sTup (sCons (sC (.int 0)) (sCons (sTup (sCons (sC (.int 0)) (sCons (sC (.int 11)) (sCons (sC (.int 10)) sNil)))) sNil))) (sCons (sTup (sCons (sC (.int 0)) (sCons (sTup (sCons (sC (.int 10)) sNil)) sNil))) sNil)))))
    (sSeq (sDrop (sApp (sVar 1) (sLst (sCons (sTup (sCons (sC (.int 0)) (sCons (sTup (sCons (sC (.int 10)) (sCons (sC (.int 0)) (sCons (sC (.int 11)) sNil)))) sNil))) (sCons (sTup (sCons (sC (.int 0)) (sCons (sTup sNil) sNil))) sNil)))))
    (sSeq (sDrop (sApp (sVar 1) (sLst (sCons (sTup (sCons (sC (.int 0)) (sCons (sTup (sCons (sC (.int 0)) (sCons (sC (.int 1)) sNil))) sNil))) (sCons (sTup (sCons (sC (.int 0)) (sCons (sTup sNil) sNil))) (sCons (sTup (sCons (sC (.int 1)) (sCons (sTup (sCons (sC (.int 10)) (sCons (sC (.int 11)) sNil))) sNil))) (sCons (sTup (sCons (sC (.int 1)) (sCons (sTup (sCons (sC (.int 12)) (sCons (sC (.int 0)) (sCons (sC (.int 13)) sNil)))) sNil))) sNil)))))))
    (sSeq (sDrop (sApp (sVar 1) (sLst (sCons (sTup (sCons (sC (.int 0)) (sCons (sTup (sCons (sC (.int 10)) (sCons (sC (.int 1)) (sCons (sC (.int 13)) sNil)))) sNil))) (sCons (sTup (sCons (sC (.int 0)) (sCons (sTup (sCons (sC (.int 11)) (sCons (sC (.int 2)) (sCons (sC (.int 13)) sNil)))) sNil))) (sCons (sTup (sCons (sC (.int 0)) (sCons (sTup (sCons (sC (.int 10)) (sCons (sC (.int 2)) (sCons (sC (.int 14)) sNil)))) sNil))) (sCons (sTup (sCons (sC (.int 0)) (sCons (sTup (sCons (sC (.int 11)) (sCons (sC (.int 1)) (sCons (sC (.int 14)) sNil)))) sNil))) (sCons (sTup (sCons (sC (.int 1)) (sCons (sTup (sCons (sC (.int 12)) sNil)) sNil))) (sCons (sTup (sCons (sC (.int 2)) (sCons (sTup (sCons (sC (.int 12)) sNil)) sNil))) sNil)))))))))
    (sSeq (sDrop (sApp (sVar 1) (sLst (sCons (sTup (sCons (sC (.int 0)) (sCons (sTup (sCons (sC (.int 1)) (sCons (sC (.int 2)) sNil))) sNil))) (sCons (sTup (sCons (sC (.int 1)) (sCons (sTup (sCons (sC (.int 10)) sNil)) sNil))) (sCons (sTup (sCons (sC (.int 1)) (sCons (sTup sNil) sNil))) (sCons (sTup (sCons (sC (.int 2)) (sCons (sTup (sCons (sC (.int 11)) sNil)) sNil))) (sCons (sTup (sCons (sC (.int 2)) (sCons (sTup sNil) sNil))) sNil))))))))
    (sSeq (sDrop (sApp (sVar 1) (sLst (sCons (sTup (sCons (sC (.int 0)) (sCons (sTup (sCons (sC (.int 10)) (sCons (sC (.int 0)) sNil))) sNil))) (sCons (sTup (sCons (sC (.int 0)) (sCons (sTup (sCons (sC (.int 10)) sNil)) sNil))) (sCons (sTup (sCons (sC (.int 0)) (sCons (sTup (sCons (sC (.int 11)) sNil)) sNil))) sNil))))))
    (sSeq (sDrop (sApp (sVar 1) (sLst (sCons (sTup (sCons (sC (.int 0)) (sCons (sTup (sCons (sC (.int 1)) (sCons (sC (.int 10)) (sCons (sC (.int 1)) sNil)))) sNil))) (sCons (sTup (sCons (sC (.int 1)) (sCons (sTup (sCons (sC (.int 11)) (sCons (sC (.int 1)) sNil))) sNil))) (sCons (sTup (sCons (sC (.int 1)) (sCons (sTup (sCons (sC (.int 12)) sNil)) sNil))) sNil))))))
    (sSeq (sDrop (sApp (sVar 1) (sLst (sCons (sTup (sCons (sC (.int 0)) (sCons (sTup (sCons (sC (.int 10)) (sCons (sC (.int 1)) sNil))) sNil))) (sCons (sTup (sCons (sC (.int 1)) (sCons (sTup (sCons (sC (.int 0)) (sCons (sC (.int 11)) sNil))) sNil))) (sCons (sTup (sCons (sC (.int 1)) (sCons (sTup sNil) sNil))) sNil))))))
    (sSeq (sDrop (sApp (sVar 1) (sLst (sCons (sTup (sCons (sC (.int 0)) (sCons (sTup (sCons (sC (.int 1)) (sCons (sC (.int 10)) sNil))) sNil))) (sCons (sTup (sCons (sC (.int 0)) (sCons (sTup (sCons (sC (.int 2)) (sCons (sC (.int 11)) sNil))) sNil))) (sCons (sTup (sCons (sC (.int 1)) (sCons (sTup (sCons (sC (.int 12)) sNil)) sNil))) (sCons (sTup (sCons (sC (.int 2)) (sCons (sTup (sCons (sC (.int 12)) sNil)) sNil))) sNil)))))))
    (sRet (sIx (sVar 1) (sOp modD (sVar 0) (sC (.int 10)))))))))))))))
def F__law_shape : List D → Rr := defP 1 2 B__law_shape
def B__law_symbol : Sg → Rs Fl :=
    (sSeq (sIf (tB1 (sOp geD (sVar 0) (sC (.int 10)))) (sRet (sIx (sVar 2) (sOp subD (sVar 0) (sC (.int 10)))))
      sNx)
    (sRet (sIx (sVar 1) (sVar 0))))
def F__law_symbol : List D → Rr := defP 3 3 B__law_symbol
def L__law_many_1 : Sg → Rs Fl :=
    (sSeq (sAsg (sTup (sCons (sIx (sIx (sVar 0) (sUn negD (sC (.int 1)))) (sC (.int 0))) (sCons (sCb tupD (sCons (sLc (iCa rng1 (sCons (sC (.int 4)) sNil)) (gN 5) tYes1 (sIx (sLst (sCons (sC (.str (Str.ofString "a"))) (sCons (sC (.str (Str.ofString "b"))) sNil))) (sOp andD (sOp shrD (sVar 3) (sVar 5)) (sC (.int 1)))) [5]) sNil)) sNil))) (gN 4))
    (sIf (tAnd1 (tB1 (sOp niD (sVar 4) (sVar 2))) (tB1 (sOp ltD (sCb lenD (sCons (sVar 2) sNil)) (sVar 1)))) (sDrop (sApp (sVar 2) (sVar 4)))
      sNx))
def B__law_many : Sg → Rs Fl :=
    (sSeq (sAsg (sCbA listD (sCons (sVar 0) sNil)) (gN 2))
    (sSeq (sFor [3, 4, 5] (iCa rng1 (sCons (sC (.int 16)) sNil)) (gN 3)
      L__law_many_1)
    (sRet (sFz (sVar 2)))))
def F__law_many : List D → Rr := defP 2 6 B__law_many
def B__law_body : Sg → Rs Fl :=
    (sSeq (sIf (tB1 (sOp eqD (sCb lenD (sCons (sVar 0) sNil)) (sC (.int 0)))) (sRet (sC (.str (Str.ofString "~"))))
      sNx)
    (sRet (sM1 joinD (sC (.str (Str.ofString " "))) (sVar 0))))
def F__law_body : List D → Rr := defP 1 1 B__law_body
def B_is_sign : Sg → Rs Fl :=
    (sSeq (sIf (tOr1 (tNot1 (tB1 (sCb (isiD isa) (sCons (sVar 0) (sCons (sC (.ty "str")) sNil))))) (tNot1 (tB1 (sChain leD leD (sC (.int 1)) (sCb lenD (sCons (sVar 0) sNil)) (sC (.int 6)))))) (sRet (sC (.bl false)))
      sNx)
    (sRet (sCall F_is_made_of (sCons (sVar 0) (sCons (sOp addD (sOp addD (sC (.str (Str.ofString "abcdefghijklmnopqrstuvwxyz"))) (sC (.str (Str.ofString "0123456789")))) (sC (.str (Str.ofString "+-*/()[]=<>,;.!?^&")))) sNil)))))
def F_is_sign : List D → Rr := defP 1 1 B_is_sign
def B_is_head : Sg → Rs Fl :=
    (sSeq (sIf (tOr1 (tNot1 (tB1 (sCb (isiD isa) (sCons (sVar 0) (sCons (sC (.ty "str")) sNil))))) (tNot1 (tB1 (sChain leD leD (sC (.int 1)) (sCb lenD (sCons (sVar 0) sNil)) (sC (.int 6)))))) (sRet (sC (.bl false)))
      sNx)
    (sRet (sAnd (sOp inD (sIx (sVar 0) (sC (.int 0))) (sC (.str (Str.ofString "ABCDEFGHIJKLMNOPQRSTUVWXYZ")))) (sCall F_is_made_of (sCons (sSl slD (sVar 0) (oSome (sC (.int 1))) oNone) (sCons (sOp addD (sC (.str (Str.ofString "abcdefghijklmnopqrstuvwxyz"))) (sC (.str (Str.ofString "0123456789")))) sNil))))))
def F_is_head : List D → Rr := defP 1 1 B_is_head
def L_show_grammar_1 : Sg → Rs Fl :=
    (sSeq (sIf (tB1 (sOp eqD (sVar 3) (sVar 2))) (sSetL (sOp addD (sOp addD (sIx (sVar 1) (sUn negD (sC (.int 1)))) (sC (.str (Str.ofString " | ")))) (sCall F_body_text (sCons (sVar 4) sNil))) (sVar 1) (sUn negD (sC (.int 1))))
      (sDrop (sApp (sVar 1) (sOp addD (sOp addD (sVar 3) (sC (.str (Str.ofString " : ")))) (sCall F_body_text (sCons (sVar 4) sNil))))))
    (sAsg (sVar 3) (gN 2)))
def B_show_grammar : Sg → Rs Fl :=
    (sSeq (sAsg (sLcA (iU (sAt fldO fldX "ranks" (sVar 0))) (gT 2 (gsC (gN 5) (gsC (gN 6) gsN))) tYes1 (sM1 joinD (sC (.str (Str.ofString " "))) (sOp addD (sTup (sCons (sVar 5) sNil)) (sVar 6))) [5, 6]) (gN 1))
    (sSeq (sAsg (sC .non) (gN 2))
    (sSeq (sFor [0, 3, 4, 5, 6] (iU (sAt fldO fldX "rules" (sVar 0))) (gT 2 (gsC (gN 3) (gsC (gN 4) gsN)))
      L_show_grammar_1)
    (sRet (sM1 joinD (sC (.str (Str.ofString "\n"))) (sVar 1))))))
def F_show_grammar : List D → Rr := defP 1 7 B_show_grammar
def L__law_row_1 : Sg → Rs Fl :=
    (sIf (tB1 (sOp geD (sVar 4) (sOp powD (sC (.int 10)) (sC (.int 18))))) (sSeq (sDrop (sApp (sVar 6) (sOp modD (sVar 5) (sVar 2))))
    (sAsg (sOp divD (sVar 5) (sVar 2)) (gN 5)))
      (sDrop (sApp (sVar 6) (sOp modD (sOp divD (sCall F__law_stir (sCons (sVar 4) (sCons (sVar 7) sNil))) (sC (.int 8))) (sVar 2)))))
def B__law_row : Sg → Rs Fl :=
    (sSeq (sAsg (sCall F__law_cell (sCons (sVar 0) (sCons (sVar 1) sNil))) (gN 4))
    (sSeq (sAsg (sOp subD (sVar 4) (sOp powD (sC (.int 10)) (sC (.int 18)))) (gN 5))
    (sSeq (sAsg (sLstA sNil) (gN 6))
    (sSeq (sFor [0, 1, 3, 7] (iCa rng1 (sCons (sVar 3) sNil)) (gN 7)
      L__law_row_1)
    (sRet (sFz (sVar 6)))))))
def F__law_row : List D → Rr := defP 4 8 B__law_row
def L__law_text_1 : Sg → Rs Fl :=
    (sSeq (sIf (tAnd1 (tB1 (sOp eqD (sIx (sVar 6) (sC (.int 0))) (sVar 4))) (tB1 (sOp gtD (sIx (sVar 2) (sVar 5)) (sC (.int 0))))) (sSetL (sOp addD (sOp addD (sIx (sVar 3) (sUn negD (sC (.int 1)))) (sC (.str (Str.ofString " | ")))) (sCall F__law_body (sCons (sIx (sVar 6) (sC (.int 1))) sNil))) (sVar 3) (sUn negD (sC (.int 1))))
      (sDrop (sApp (sVar 3) (sOp addD (sOp addD (sIx (sVar 6) (sC (.int 0))) (sC (.str (Str.ofString " : ")))) (sCall F__law_body (sCons (sIx (sVar 6) (sC (.int 1))) sNil))))))
    (sAsg (sIx (sVar 6) (sC (.int 0))) (gN 4)))
def B__law_text : Sg → Rs Fl :=
    (sSeq (sAsg (sLcA (iU (sVar 1)) (gT 2 (gsC (gN 7) (gsC (gN 8) gsN))) tYes1 (sOp addD (sOp addD (sVar 7) (sC (.str (Str.ofString " ")))) (sM1 joinD (sC (.str (Str.ofString " "))) (sVar 8))) [7, 8]) (gN 3))
    (sSeq (sAsg (sC (.str (Str.ofString ""))) (gN 4))
    (sSeq (sFor [0, 1, 5, 6, 7, 8] (iCa enum1 (sCons (sVar 0) sNil)) (gT 2 (gsC (gN 5) (gsC (gN 6) gsN)))
      L__law_text_1)
    (sRet (sM1 joinD (sC (.str (Str.ofString "\n"))) (sVar 3))))))
def F__law_text : List D → Rr := defP 3 9 B__law_text
def B_is_symbol : Sg → Rs Fl :=
    (sRet (sOr (sCall F_is_sign (sCons (sVar 0) sNil)) (sCall F_is_head (sCons (sVar 0) sNil))))
def F_is_symbol : List D → Rr := defP 1 1 B_is_symbol
def B_is_rank : Sg → Rs Fl :=
    (sSeq (sIf (tOr1 (tNot1 (tB1 (sCb (isiD isa) (sCons (sVar 0) (sCons (sC (.ty "tuple")) sNil))))) (tOr1 (tB1 (sOp neD (sCb lenD (sCons (sVar 0) sNil)) (sC (.int 2)))) (tOr1 (tNot1 (tB1 (sCb (isiD isa) (sCons (sIx (sVar 0) (sC (.int 0))) (sCons (sC (.ty "str")) sNil))))) (tB1 (sOp niD (sIx (sVar 0) (sC (.int 0))) (sC (.kt (List.map D.str k_SIDES)))))))) (sRet (sC (.bl false)))
      sNx)
    (sSeq (sIf (tOr1 (tNot1 (tB1 (sCb (isiD isa) (sCons (sIx (sVar 0) (sC (.int 1))) (sCons (sC (.ty "tuple")) sNil))))) (tNot1 (tB1 (sChain leD leD (sC (.int 1)) (sCb lenD (sCons (sIx (sVar 0) (sC (.int 1))) sNil)) (sC (.int 10)))))) (sRet (sC (.bl false)))
      sNx)
    (sRet (sCb allD (sCons (sLc (iU (sIx (sVar 0) (sC (.int 1)))) (gN 1) tYes1 (sCall F_is_sign (sCons (sVar 1) sNil)) [1]) sNil)))))
def F_is_rank : List D → Rr := defP 1 2 B_is_rank
def L_Grammar_signs_b_2 : Sg → Rs Fl :=
    (sIf (tB1 (sCall F_is_sign (sCons (sVar 4) sNil))) (sSetD (sC (.bl true)) (sVar 1) (sVar 4))
      sNx)
def L_Grammar_signs_b_1 : Sg → Rs Fl :=
    (sFor [0, 2, 3, 4] (iU (sVar 3)) (gN 4)
      L_Grammar_signs_b_2)
def B_Grammar_signs_b : Sg → Rs Fl :=
    (sSeq (sAsg sDKA (gN 1))
    (sSeq (sFor [0, 2, 3, 4] (iU (sAt fldO fldX "rules" (sVar 0))) (gT 2 (gsC (gN 2) (gsC (gN 3) gsN)))
      L_Grammar_signs_b_1)
    (sRet (sCb sortedD (sCons (sVar 1) sNil)))))
def F_Grammar_signs_b : List U → List Cell → Rb := defB 1 5 B_Grammar_signs_b
def B_rank_in : Sg → Rs Fl :=
    (sSeq (sAsg (sM1 splitD (sVar 0) (sC (.str (Str.ofString " ")))) (gN 1))
    (sSeq (sIf (tOr1 (tB1 (sOp niD (sIx (sVar 1) (sC (.int 0))) (sC (.kt (List.map D.str k_SIDES))))) (tOr1 (tB1 (sOp ltD (sCb lenD (sCons (sVar 1) sNil)) (sC (.int 2)))) (tNot1 (tB1 (sCb allD (sCons (sLc (iU (sSl slD (sVar 1) (oSome (sC (.int 1))) oNone)) (gN 2) tYes1 (sCall F_is_sign (sCons (sVar 2) sNil)) [2]) sNil)))))) (sRet (sC .non))
      sNx)
    (sRet (sTup (sCons (sIx (sVar 1) (sC (.int 0))) (sCons (sCb tupD (sCons (sSl slD (sVar 1) (oSome (sC (.int 1))) oNone) sNil)) sNil))))))
def F_rank_in : List D → Rr := defP 1 3 B_rank_in
def L__law_drawn_rules_1 : Sg → Rs Fl :=
    (sSeq (sAsg (sCall F__law_row (sCons (sVar 0) (sCons (sOp addD (sVar 1) (sVar 6)) (sCons (sC (.int 24)) (sCons (sC (.int 5)) sNil))))) (gN 7))
    (sSeq (sAsg (sIx (sVar 2) (sOp modD (sVar 6) (sCb lenD (sCons (sVar 2) sNil)))) (gN 8))
    (sSeq (sIf (tB1 (sOp geD (sVar 6) (sCb lenD (sCons (sVar 2) sNil)))) (sAsg (sIx (sVar 2) (sOp modD (sIx (sVar 7) (sC (.int 0))) (sCb lenD (sCons (sVar 2) sNil)))) (gN 8))
      sNx)
    (sSeq (sAsg (sOp addD (sVar 2) (sVar 3)) (gN 9))
    (sSeq (sAsg (sLc (iU (sSl slD (sVar 7) (oSome (sC (.int 2))) (oSome (sOp addD (sC (.int 2)) (sOp modD (sIx (sVar 7) (sC (.int 1))) (sC (.int 4))))))) (gN 11) tYes1 (sIx (sVar 9) (sOp modD (sVar 11) (sCb lenD (sCons (sVar 9) sNil)))) [11]) (gN 10))
    (sIf (tB1 (sOp niD (sTup (sCons (sVar 8) (sCons (sCb tupD (sCons (sVar 10) sNil)) sNil))) (sVar 5))) (sDrop (sApp (sVar 5) (sTup (sCons (sVar 8) (sCons (sCb tupD (sCons (sVar 10) sNil)) sNil)))))
      sNx))))))
def B__law_drawn_rules : Sg → Rs Fl :=
    (sSeq (sAsg (sLstA sNil) (gN 5))
    (sSeq (sFor [4, 6, 7, 8, 9, 10, 11] (iCa rng1 (sCons (sOp addD (sCb lenD (sCons (sVar 2) sNil)) (sVar 4)) sNil)) (gN 6)
      L__law_drawn_rules_1)
    (sRet (sFz (sVar 5)))))
def F__law_drawn_rules : List D → Rr := defP 5 12 B__law_drawn_rules
def L__law_ranks_1 : Sg → Rs Fl :=
    (sSeq (sAsg (sIx (sLst (sCons (sC (.str (Str.ofString "left"))) (sCons (sC (.str (Str.ofString "right"))) (sCons (sC (.str (Str.ofString "none"))) sNil)))) (sOp modD (sIx (sVar 2) (sOp addD (sC (.int 2)) (sVar 5))) (sC (.int 3)))) (gN 6))
    (sDrop (sApp (sVar 4) (sTup (sCons (sVar 6) (sCons (sCb tupD (sCons (sSl slD (sVar 3) (oSome (sOp mulD (sC (.int 3)) (sVar 5))) (oSome (sOp addD (sOp addD (sOp mulD (sC (.int 3)) (sVar 5)) (sC (.int 1))) (sOp modD (sOp divD (sIx (sVar 2) (sOp addD (sC (.int 2)) (sVar 5))) (sC (.int 3))) (sC (.int 3)))))) sNil)) sNil))))))
def B__law_ranks : Sg → Rs Fl :=
    (sSeq (sAsg (sCall F__law_row (sCons (sVar 0) (sCons (sVar 1) (sCons (sOp mulD (sOp mulD (sC (.int 18)) (sC (.int 7))) (sC (.int 6))) (sCons (sC (.int 8)) sNil))))) (gN 2))
    (sSeq (sAsg (sCall F__law_signs (sCons (sIx (sVar 2) (sC (.int 0))) (sCons (sC (.int 18)) sNil))) (gN 3))
    (sSeq (sAsg (sLstA sNil) (gN 4))
    (sSeq (sFor [0, 1, 5, 6] (iCa rng1 (sCons (sOp modD (sIx (sVar 2) (sC (.int 1))) (sC (.int 7))) sNil)) (gN 5)
      L__law_ranks_1)
    (sRet (sFz (sVar 4)))))))
def F__law_ranks : List D → Rr := defP 2 7 B__law_ranks
def B__law_right : Sg → Rs Fl :=
    (sSeq (sIf (tOr1 (tB1 (sOp neD (sAt fldO fldX "rules" (sVar 0)) (sCb tupD (sCons (sVar 1) sNil)))) (tOr1 (tB1 (sOp neD (sAt fldO fldX "ranks" (sVar 0)) (sCb tupD (sCons (sVar 2) sNil)))) (tB1 (sOp neD (sAt fldO fldX "start" (sVar 0)) (sIx (sIx (sVar 1) (sC (.int 0))) (sC (.int 0))))))) (sRet (sC (.bl false)))
      sNx)
    (sSeq (sAsg (sCall F_show_grammar (sCons (sVar 0) sNil)) (gN 4))
    (sRet (sAnd (sCb (isiD isa) (sCons (sVar 4) (sCons (sC (.ty "str")) sNil))) (sOp eqD (sVar 4) (sVar 3))))))
def F__law_right : List D → Rr := defP 4 5 B__law_right
def B_is_rule : Sg → Rs Fl :=
    (sSeq (sIf (tOr1 (tNot1 (tB1 (sCb (isiD isa) (sCons (sVar 0) (sCons (sC (.ty "tuple")) sNil))))) (tOr1 (tB1 (sOp neD (sCb lenD (sCons (sVar 0) sNil)) (sC (.int 2)))) (tNot1 (tB1 (sCall F_is_head (sCons (sIx (sVar 0) (sC (.int 0))) sNil)))))) (sRet (sC (.bl false)))
      sNx)
    (sSeq (sIf (tOr1 (tNot1 (tB1 (sCb (isiD isa) (sCons (sIx (sVar 0) (sC (.int 1))) (sCons (sC (.ty "tuple")) sNil))))) (tB1 (sOp gtD (sCb lenD (sCons (sIx (sVar 0) (sC (.int 1))) sNil)) (sC (.int 4))))) (sRet (sC (.bl false)))
      sNx)
    (sRet (sCb allD (sCons (sLc (iU (sIx (sVar 0) (sC (.int 1)))) (gN 1) tYes1 (sCall F_is_symbol (sCons (sVar 1) sNil)) [1]) sNil)))))
def F_is_rule : List D → Rr := defP 1 2 B_is_rule
def L_need_ranks_2 : Sg → Rs Fl :=
    (sSeq (sIf (tB1 (sOp inD (sVar 3) (sVar 1))) (sRz "NoRanks" ["found"] (sCons (sVar 2) sNil))
      sNx)
    (sSetD (sC (.bl true)) (sVar 1) (sVar 3)))
def L_need_ranks_1 : Sg → Rs Fl :=
    (sSeq (sIf (tNot1 (tB1 (sCall F_is_rank (sCons (sVar 2) sNil)))) (sRz "NoRanks" ["found"] (sCons (sVar 2) sNil))
      sNx)
    (sFor [0, 3] (iU (sIx (sVar 2) (sC (.int 1)))) (gN 3)
      L_need_ranks_2))
def B_need_ranks : Sg → Rs Fl :=
    (sSeq (sIf (tNot1 (tB1 (sCb (isiD isa) (sCons (sVar 0) (sCons (sTup (sCons (sC (.ty "list")) (sCons (sC (.ty "tuple")) sNil))) sNil))))) (sRz "NoRanks" ["found"] (sCons (sVar 0) sNil))
      sNx)
    (sSeq (sIf (tB1 (sOp gtD (sCb lenD (sCons (sVar 0) sNil)) (sC (.int 6)))) (sRz "TooMany" ["found"] (sCons (sCb lenD (sCons (sVar 0) sNil)) sNil))
      sNx)
    (sSeq (sAsg sDKA (gN 1))
    (sFor [0, 2, 3] (iU (sVar 0)) (gN 2)
      L_need_ranks_1))))
def F_need_ranks : List D → Rr := defP 1 4 B_need_ranks
def tb_heads : List (String × (List U → List Cell → Rb)) := [("Grammar", F_Grammar_heads_b)]
def tb_signs : List (String × (List U → List Cell → Rb)) := [("Grammar", F_Grammar_signs_b)]
def L_Grammar_need_heads_b_2 : Sg → Rs Fl :=
    (sIf (tAnd1 (tB1 (sCall F_is_head (sCons (sVar 4) sNil))) (tB1 (sOp niD (sVar 4) (sVar 1)))) (sRz "NoHead" ["head"] (sCons (sVar 4) sNil))
      sNx)
def L_Grammar_need_heads_b_1 : Sg → Rs Fl :=
    (sFor [2, 3, 4] (iU (sVar 3)) (gN 4)
      L_Grammar_need_heads_b_2)
def B_Grammar_need_heads_b : Sg → Rs Fl :=
    (sSeq (sAsg (sMthB "heads" tb_heads (sVar 0) sNil) (gN 1))
    (sSeq (sFor [2, 3, 4] (iU (sAt fldO fldX "rules" (sVar 0))) (gT 2 (gsC (gN 2) (gsC (gN 3) gsN)))
      L_Grammar_need_heads_b_1)
    (sSeq (sIf (tB1 (sOp gtD (sCb lenD (sCons (sVar 1) sNil)) (sC (.int 8)))) (sRz "TooMany" ["found"] (sCons (sCb lenD (sCons (sVar 1) sNil)) sNil))
      sNx)
    (sIf (tB1 (sOp gtD (sCb lenD (sCons (sMthB "signs" tb_signs (sVar 0) sNil) sNil)) (sC (.int 10)))) (sRz "TooMany" ["found"] (sCons (sCb lenD (sCons (sMthB "signs" tb_signs (sVar 0) sNil) sNil)) sNil))
      sNx))))
def F_Grammar_need_heads_b : List U → List Cell → Rb := defB 1 5 B_Grammar_need_heads_b
def B_body_in : Sg → Rs Fl :=
    (sSeq (sIf (tB1 (sOp eqD (sVar 0) (sLst (sCons (sC (.str (Str.ofString "~"))) sNil)))) (sRet (sTup sNil))
      sNx)
    (sSeq (sIf (tOr1 (tB1 (sOp eqD (sVar 0) (sLst sNil))) (tNot1 (tB1 (sCb allD (sCons (sLc (iU (sVar 0)) (gN 1) tYes1 (sCall F_is_symbol (sCons (sVar 1) sNil)) [1]) sNil))))) (sRet (sC .non))
      sNx)
    (sRet (sCb tupD (sCons (sVar 0) sNil)))))
def F_body_in : List D → Rr := defP 1 2 B_body_in
def L__law_rules_1 : Sg → Rs Fl :=
    (sSeq (sAsg (sLc (iU (sVar 7)) (gN 10) tYes1 (sCall F__law_symbol (sCons (sVar 10) (sCons (sVar 3) (sCons (sVar 4) sNil)))) [10]) (gN 8))
    (sDrop (sApp (sVar 5) (sTup (sCons (sIx (sVar 3) (sVar 6)) (sCons (sCb tupD (sCons (sVar 8) sNil)) sNil))))))
def B__law_rules : Sg → Rs Fl :=
    (sSeq (sAsg (sCall F__law_row (sCons (sVar 0) (sCons (sVar 1) (sCons (sOp mulD (sOp mulD (sOp mulD (sC (.int 3)) (sC (.int 3))) (sC (.int 5))) (sC (.int 8))) (sCons (sC (.int 3)) sNil))))) (gN 2))
    (sSeq (sAsg (sCall F__law_heads (sCons (sIx (sVar 2) (sC (.int 1))) (sCons (sC (.int 3)) sNil))) (gN 3))
    (sSeq (sAsg (sCall F__law_signs (sCons (sIx (sVar 2) (sC (.int 2))) (sCons (sC (.int 5)) sNil))) (gN 4))
    (sSeq (sIf (tB1 (sOp ltD (sOp divD (sIx (sVar 2) (sC (.int 0))) (sC (.int 45))) (sC (.int 3)))) (sSeq (sAsg (sLstA sNil) (gN 5))
    (sSeq (sFor [0, 1, 2, 6, 7, 8, 9, 10] (iU (sCall F__law_shape (sCons (sIx (sVar 2) (sC (.int 0))) sNil))) (gT 2 (gsC (gN 6) (gsC (gN 7) gsN)))
      L__law_rules_1)
    (sRet (sFz (sVar 5)))))
      sNx)
    (sSeq (sAsg (sSl slD (sVar 3) oNone (oSome (sOp addD (sC (.int 1)) (sOp modD (sIx (sVar 2) (sC (.int 0))) (sC (.int 3)))))) (gN 9))
    (sRet (sCall F__law_drawn_rules (sCons (sVar 0) (sCons (sOp addD (sVar 1) (sC (.int 1))) (sCons (sVar 9) (sCons (sSl slD (sVar 4) oNone (oSome (sOp addD (sC (.int 1)) (sOp modD (sOp divD (sIx (sVar 2) (sC (.int 0))) (sC (.int 3))) (sC (.int 3)))))) (sCons (sOp modD (sOp divD (sIx (sVar 2) (sC (.int 0))) (sC (.int 9))) (sC (.int 4))) sNil))))))))))))
def F__law_rules : List D → Rr := defP 2 11 B__law_rules
def L_need_rules_1 : Sg → Rs Fl :=
    (sSeq (sIf (tNot1 (tB1 (sCall F_is_rule (sCons (sVar 2) sNil)))) (sRz "NoRule" ["found"] (sCons (sVar 2) sNil))
      sNx)
    (sIf (tB1 (sOp inD (sVar 2) (sSl slD (sVar 0) oNone (oSome (sVar 1))))) (sRz "Doubled" ["number"] (sCons (sVar 1) sNil))
      sNx))
def B_need_rules : Sg → Rs Fl :=
    (sSeq (sIf (tNot1 (tB1 (sCb (isiD isa) (sCons (sVar 0) (sCons (sC (.ty "list")) sNil))))) (sRz "NoRule" ["found"] (sCons (sVar 0) sNil))
      sNx)
    (sSeq (sIf (tNot1 (tB1 (sChain leD leD (sC (.int 1)) (sCb lenD (sCons (sVar 0) sNil)) (sC (.int 20))))) (sRz "TooMany" ["found"] (sCons (sCb lenD (sCons (sVar 0) sNil)) sNil))
      sNx)
    (sFor [1, 2] (iCa enum1 (sCons (sVar 0) sNil)) (gT 2 (gsC (gN 1) (gsC (gN 2) gsN)))
      L_need_rules_1)))
def F_need_rules : List D → Rr := defP 1 3 B_need_rules
def B_rules_in : Sg → Rs Fl :=
    (sSeq (sAsg (sM1 splitD (sVar 0) (sC (.str (Str.ofString " ")))) (gN 1))
    (sSeq (sIf (tOr1 (tB1 (sOp ltD (sCb lenD (sCons (sVar 1) sNil)) (sC (.int 3)))) (tOr1 (tNot1 (tB1 (sCall F_is_head (sCons (sIx (sVar 1) (sC (.int 0))) sNil)))) (tB1 (sOp neD (sIx (sVar 1) (sC (.int 1))) (sC (.str (Str.ofString ":"))))))) (sRet (sC .non))
      sNx)
    (sSeq (sAsg (sLc (iU (sCall F_parted_words (sCons (sSl slD (sVar 1) (oSome (sC (.int 2))) oNone) sNil))) (gN 3) tYes1 (sCall F_body_in (sCons (sVar 3) sNil)) [3]) (gN 2))
    (sSeq (sIf (tB1 (sOp inD (sC .non) (sVar 2))) (sRet (sC .non))
      sNx)
    (sRet (sLc (iU (sVar 2)) (gN 4) tYes1 (sTup (sCons (sIx (sVar 1) (sC (.int 0))) (sCons (sVar 4) sNil))) [4]))))))
def F_rules_in : List D → Rr := defP 1 5 B_rules_in
def tb_need_heads : List (String × (List U → List Cell → Rb)) := [("Grammar", F_Grammar_need_heads_b)]
def B_Grammar_init : Sg → Rs Fl :=
    (sSeq (sDrop (sCall F_need_rules (sCons (sVar 1) sNil)))
    (sSeq (sSetF fldO "rules" (sCb tupD (sCons (sVar 1) sNil)) (sVar 0))
    (sSeq (sSetF fldO "start" (sIx (sIx (sAt fldO fldX "rules" (sVar 0)) (sC (.int 0))) (sC (.int 0))) (sVar 0))
    (sSeq (sDrop (sMthB "need_heads" tb_need_heads (sVar 0) sNil))
    (sSeq (sIf (tB1 (sOp isND (sVar 2) (sC .non))) (sAsg (sTup sNil) (gN 2))
      sNx)
    (sSeq (sDrop (sCall F_need_ranks (sCons (sVar 2) sNil)))
    (sSetF fldO "ranks" (sCb tupD (sCons (sVar 2) sNil)) (sVar 0))))))))
def F_Grammar_init : List U → List Cell → Rb := defB 3 3 B_Grammar_init
def L_read_grammar_1 : Sg → Rs Fl :=
    (sSeq (sAsg (sCall F_rank_in (sCons (sVar 4) sNil)) (gN 5))
    (sSeq (sAsg (sCall F_rules_in (sCons (sVar 4) sNil)) (gN 6))
    (sIf (tAnd1 (tB1 (sOp nnND (sVar 5) (sC .non))) (tB1 (sOp eqD (sVar 1) (sLst sNil)))) (sDrop (sApp (sVar 2) (sVar 5)))
      (sIf (tB1 (sOp nnND (sVar 6) (sC .non))) (sDrop (sMt mExtend (sVar 1) (sCons (sVar 6) sNil)))
      (sRz "NoText" ["line"] (sCons (sVar 3) sNil))))))
def B_read_grammar : Sg → Rs Fl :=
    (sSeq (sIf (tNot1 (tB1 (sCb (isiD isa) (sCons (sVar 0) (sCons (sC (.ty "str")) sNil))))) (sRz "NoText" ["line"] (sCons (sC (.int 0)) sNil))
      sNx)
    (sSeq (sAsg (sLstA sNil) (gN 1))
    (sSeq (sAsg (sLstA sNil) (gN 2))
    (sSeq (sFor [0, 3, 4, 5, 6] (iCa enum1 (sCons (sM1 splitD (sVar 0) (sC (.str (Str.ofString "\n")))) sNil)) (gT 2 (gsC (gN 3) (gsC (gN 4) gsN)))
      L_read_grammar_1)
    (sRet (sFz (sMake "Grammar" [] F_Grammar_init (sCons (sFz (sVar 1)) (sCons (sFz (sVar 2)) sNil)))))))))
def F_read_grammar : List D → Rr := defP 1 7 B_read_grammar
def L_law_1 : Sg → Rs Fl :=
    (sSeq (sAsg (sCall F__law_text (sCons (sVar 1) (sCons (sVar 2) (sCons (sCall F__law_row (sCons (sVar 0) (sCons (sVar 5) (sCons (sC (.int 2)) (sCons (sC (.int 20)) sNil))))) sNil)))) (gN 6))
    (sIf (tNot1 (tB1 (sCall F__law_right (sCons (sCall F_read_grammar (sCons (sVar 6) sNil)) (sCons (sVar 1) (sCons (sVar 2) (sCons (sVar 4) sNil))))))) (sRet (sC (.bl false)))
      sNx))
def B_law : Sg → Rs Fl :=
    (sSeq (sAsg (sCall F__law_rules (sCons (sVar 0) (sCons (sC (.int 1)) sNil))) (gN 1))
    (sSeq (sAsg (sCall F__law_ranks (sCons (sVar 0) (sCons (sC (.int 9)) sNil))) (gN 2))
    (sSeq (sAsg (sIx (sCall F__law_row (sCons (sVar 0) (sCons (sC (.int 10)) (sCons (sOp mulD (sC (.int 4)) (sC (.int 24))) (sCons (sC (.int 1)) sNil))))) (sC (.int 0))) (gN 3))
    (sSeq (sIf (tB1 (sOp eqD (sOp modD (sVar 3) (sC (.int 4))) (sC (.int 3)))) (sAsg (sSl slD (sCall F__law_many (sCons (sVar 1) (sCons (sOp modD (sOp divD (sVar 3) (sC (.int 4))) (sC (.int 24))) sNil))) oNone (oSome (sC (.int 20)))) (gN 1))
      sNx)
    (sSeq (sAsg (sCall F__law_text (sCons (sVar 1) (sCons (sVar 2) (sCons (sOp mulD (sLst (sCons (sC (.int 1)) sNil)) (sC (.int 20))) sNil)))) (gN 4))
    (sSeq (sFor [3, 5, 6] (iCa rng2 (sCons (sC (.int 11)) (sCons (sCb max2D (sCons (sC (.int 13)) (sCons (sCb min2D (sCons (sCb lenD (sCons (sVar 0) sNil)) (sCons (sC (.int 20)) sNil))) sNil))) sNil))) (gN 5)
      L_law_1)
    (sSeq (sIf (tNot1 (tB1 (sCall F__law_right (sCons (sFz (sMake "Grammar" [] F_Grammar_init (sCons (sCb listD (sCons (sVar 1) sNil)) (sCons (sCb tupD (sCons (sVar 2) sNil)) sNil)))) (sCons (sVar 1) (sCons (sVar 2) (sCons (sVar 4) sNil))))))) (sRet (sC (.bl false)))
      sNx)
    (sRet (sCall F__law_right (sCons (sCall F_read_grammar (sCons (sVar 4) sNil)) (sCons (sVar 1) (sCons (sVar 2) (sCons (sVar 4) sNil)))))))))))))
def F_law : List D → Rr := defP 1 7 B_law
open TL (tl)
/-! ### made of -/
def madeB (z some : Str) : Bool := (tl z).all fun c => decide (c ∈ tl some)
theorem made_eq (z s : Str) (h : z.length ≤ 10000000) : F_is_made_of [.str z, .str s] = .ok (.bl (madeB z s)) := by
  have e := lcL_map (sl := [some (.d (.str z)), some (.d (.str s)), none]) (vs := [2]) (tg := gN 2) (tt := tYes1) (te := sOp inD (sVar 2) (sVar 1)) (mm := []) (xs := signs z)
    (fun d => match d with | .str x => (match tl x with | [c] => .bl (decide (c ∈ tl s)) | _ => .non) | _ => .non) (fun x hx => by
      obtain ⟨c, _, rfl⟩ := List.mem_map.mp hx
      simp [lcStep]) []
  have hl : (signs z).length ≤ 10000000 := by simpa [signs, Str.length] using h
  simp [F_is_made_of, defP, runP, B_is_made_of, slotsP, hl]
  rw [e]
  simp [signs, Function.comp_def, allD, madeB]
/-! ### what a word is -/
abbrev smallS := Str.ofString "abcdefghijklmnopqrstuvwxyz"
abbrev figS := Str.ofString "0123456789"
abbrev othS := Str.ofString "+-*/()[]=<>,;.!?^&"
abbrev signS := Str.ofString "abcdefghijklmnopqrstuvwxyz0123456789+-*/()[]=<>,;.!?^&"
abbrev headS := Str.ofString "abcdefghijklmnopqrstuvwxyz0123456789"
abbrev greatS := Str.ofString "ABCDEFGHIJKLMNOPQRSTUVWXYZ"
theorem sign_cat : smallS ++ figS ++ othS = signS := by decide +kernel
theorem head_cat : smallS ++ figS = headS := by decide +kernel
def lenB (w : Str) : Bool := decide (1 ≤ w.length) && decide (w.length ≤ 6)
def signB (w : Str) : Bool := lenB w && madeB w signS
def headB (w : Str) : Bool := match tl w with
  | [] => false
  | c :: cs => decide (w.length ≤ 6) && (decide (c ∈ tl greatS) && cs.all fun c => decide (c ∈ tl headS))
theorem small_len : smallS.length = 26 := by decide +kernel
theorem fig_len : figS.length = 10 := by decide +kernel
theorem oth_len : othS.length = 18 := by decide +kernel
theorem head_len : headS.length = 36 := by decide +kernel
theorem sign_eq (w : Str) (h : w.length ≤ 10000000) : F_is_sign [.str w] = .ok (.bl (signB w)) := by
  have hl : lenD [.str w] = some (.int w.length) := lenD_str (Nat.le_trans h (by decide))
  have a1 : addD (.str smallS) (.str figS) = some (.str headS) := by rw [addD, small_len, fig_len, if_pos (by decide), head_cat]
  have a2 : addD (.str headS) (.str othS) = some (.str signS) := by rw [addD, head_len, oth_len, if_pos (by decide), ← head_cat, sign_cat]
  by_cases h1 : 1 ≤ w.length <;> by_cases h2 : w.length ≤ 6
  all_goals
    have h1' : (1 : Int) ≤ w.length ↔ 1 ≤ w.length := by omega
    have h2' : (w.length : Int) ≤ 6 ↔ w.length ≤ 6 := by omega
    simp [F_is_sign, defP, runP, B_is_sign, slotsP, isiD, kdOf, kcOf, isa1, kitB, hl, h1, h2, h1', h2', a1, a2, made_eq w signS h, signB, lenB]
theorem cut1 (c : Nat) (cs : List Nat) : cutS ⟨(c :: cs).toArray⟩ (some 1) none = ⟨cs.toArray⟩ := by
  simp [cutS, HT.sIx, Str.length]
theorem one_cut {w : Str} {c : Nat} {cs : List Nat} (h : w.length ≤ 10000000) (hw : tl w = c :: cs) :
    ixD (.str w) (.int 0) = some (.str ⟨#[c]⟩) ∧ slD (.str w) (some 1) none = some (.str ⟨cs.toArray⟩) ∧ w.length = cs.length + 1 := by
  have e : w = ⟨(c :: cs).toArray⟩ := by rw [← hw, TL.mk_tl]
  have hs : w.length ≤ sizeLine := Nat.le_trans h (by decide)
  refine ⟨?_, ?_, by rw [TL.len_tl, hw]; rfl⟩
  · rw [ixD, atS, if_pos hs, show w.cps.toList = c :: cs from hw]
    simp [atI, ixN]
  · rw [slD, if_pos hs, e, cut1]
theorem head_eq (w : Str) (h : w.length ≤ 10000000) : F_is_head [.str w] = .ok (.bl (headB w)) := by
  have hl : lenD [.str w] = some (.int w.length) := lenD_str (Nat.le_trans h (by decide))
  have a1 : addD (.str smallS) (.str figS) = some (.str headS) := by rw [addD, small_len, fig_len, if_pos (by decide), head_cat]
  cases ht : tl w with
  | nil =>
    have h0 : w.length = 0 := by rw [TL.len_tl, ht]; rfl
    simp [F_is_head, defP, runP, B_is_head, slotsP, isiD, kdOf, kcOf, isa1, kitB, hl, headB, ht, h0]
  | cons c cs =>
    obtain ⟨i1, i2, i3⟩ := one_cut h ht
    have h3 : (1 : Int) ≤ w.length := by omega
    have h4 : madeB ⟨cs.toArray⟩ headS = cs.all fun c => decide (c ∈ tl headS) := rfl
    have h5 := made_eq ⟨cs.toArray⟩ headS (by have : (Str.mk cs.toArray).length = cs.length := rfl; omega)
    by_cases h2 : w.length ≤ 6
    · have h2' : (w.length : Int) ≤ 6 := by omega
      by_cases hc : c ∈ tl greatS
      · simp [F_is_head, defP, runP, B_is_head, slotsP, isiD, kdOf, kcOf, isa1, kitB, hl, h2', i1, i2, h3, a1, headB, ht, h5, h4, hc, h2]
      · simp [F_is_head, defP, runP, B_is_head, slotsP, isiD, kdOf, kcOf, isa1, kitB, hl, h2', i1, i2, h3, a1, headB, ht, h5, h4, hc, h2]
    · have h2' : ¬ (w.length : Int) ≤ 6 := by omega
      simp [F_is_head, defP, runP, B_is_head, slotsP, isiD, kdOf, kcOf, isa1, kitB, hl, h2', headB, ht, h2, h3]
def symB (s : Str) : Bool := signB s || headB s
theorem symbol_eq (w : Str) (h : w.length ≤ 10000000) : F_is_symbol [.str w] = .ok (.bl (symB w)) := by
  cases h1 : signB w <;> simp [F_is_symbol, defP, runP, B_is_symbol, slotsP, sign_eq w h, head_eq w h, symB, h1]
theorem signB_len {s : Str} (h : signB s = true) : 1 ≤ s.length ∧ s.length ≤ 6 := by
  simpa [signB, lenB] using (Bool.and_eq_true_iff.mp h).1
theorem headB_len {s : Str} (h : headB s = true) : 1 ≤ s.length ∧ s.length ≤ 6 := by
  unfold headB at h
  cases e : tl s with
  | nil => rw [e] at h; cases h
  | cons c cs =>
    rw [e] at h
    have h6 : s.length ≤ 6 := by simpa using (Bool.and_eq_true_iff.mp h).1
    have : s.length = cs.length + 1 := by rw [TL.len_tl, e]; rfl
    exact ⟨by omega, h6⟩
theorem symB_len {s : Str} (h : symB s = true) : 1 ≤ s.length ∧ s.length ≤ 6 := by
  rcases Bool.or_eq_true_iff.mp h with h | h
  · exact signB_len h
  · exact headB_len h
theorem signB_mem {s : Str} (h : signB s = true) : ∀ c ∈ tl s, c ∈ tl signS := by
  have h := (Bool.and_eq_true_iff.mp h).2
  intro c hc
  simpa using List.all_eq_true.mp h c hc
theorem headB_mem {s : Str} (h : headB s = true) : ∀ c ∈ tl s, c ∈ tl greatS ∨ c ∈ tl headS := by
  unfold headB at h
  cases e : tl s with
  | nil => rw [e] at h; cases h
  | cons a cs =>
    rw [e] at h
    obtain ⟨_, h⟩ := Bool.and_eq_true_iff.mp h
    obtain ⟨h1, h2⟩ := Bool.and_eq_true_iff.mp h
    intro c hc
    rcases List.mem_cons.mp hc with rfl | hc
    · exact .inl (by simpa using h1)
    · exact .inr (by simpa using List.all_eq_true.mp h2 c hc)
/-- the signs of symbols -/
def symSigns : List Nat := tl signS ++ tl greatS
theorem head_in_sign : ∀ c ∈ tl headS, c ∈ tl signS := by decide +kernel
theorem symB_mem {s : Str} (h : symB s = true) : ∀ c ∈ tl s, c ∈ symSigns := by
  intro c hc
  rcases Bool.or_eq_true_iff.mp h with h | h
  · exact List.mem_append_left _ (signB_mem h c hc)
  · rcases headB_mem h c hc with h | h
    · exact List.mem_append_right _ h
    · exact List.mem_append_left _ (head_in_sign c h)
theorem sym_ok {s : Str} (h : symB s = true) : okS s = true ∧ 32 ∉ tl s ∧ 10 ∉ tl s := by
  have m := symB_mem h
  have g : ∀ c ∈ symSigns, c < 128 ∧ c ≠ 32 ∧ c ≠ 10 := by decide +kernel
  refine ⟨?_, fun z => (g _ (m _ z)).2.1 rfl, fun z => (g _ (m _ z)).2.2 rfl⟩
  show s.cps.all _ = true
  rw [← Array.all_toList, List.all_eq_true]
  intro c hc
  have := (g c (m c hc)).1
  exact decide_eq_true (by omega)
/-! ### rules, ranks -/
def ruleD (r : Str × List Str) : D := .tup [.str r.1, .tup (r.2.map D.str)]
structure OkRule (r : Str × List Str) : Prop where
  hd : headB r.1 = true
  le : r.2.length ≤ 4
  sy : ∀ s ∈ r.2, symB s = true
structure OkRank (r : Str × List Str) : Prop where
  si : r.1 ∈ k_SIDES
  ne : 1 ≤ r.2.length
  le : r.2.length ≤ 10
  sg : ∀ s ∈ r.2, signB s = true
theorem two_at (a b : D) : ixD (.tup [a, b]) (.int 0) = some a ∧ ixD (.tup [a, b]) (.int 1) = some b := by
  constructor <;> simp [ixD, atD, atI, ixN]
@[simp] theorem lenD_tup (ds : List D) : lenD [.tup ds] = some (.int ds.length) := rfl
theorem len7 {s : Str} {n : Nat} (h : s.length ≤ n) (hn : n ≤ 10000000 := by decide) : s.length ≤ 10000000 := Nat.le_trans h hn
theorem all_true {α : Type} {xs : List α} {f : α → Bool} (h : ∀ x ∈ xs, f x = true) : allD [.lst (xs.map fun x => D.bl (f x))] = some (.bl true) := by
  simp [allD]
  exact h
theorem is_rule_eq {r : Str × List Str} (h : OkRule r) : F_is_rule [ruleD r] = .ok (.bl true) := by
  obtain ⟨a, b⟩ := r
  obtain ⟨h1, h2, h3⟩ := h
  have e := lcL_map (sl := [some (.d (.tup [.str a, .tup (b.map D.str)])), none]) (vs := [1]) (tg := gN 1) (tt := tYes1) (te := sCall F_is_symbol (sCons (sVar 1) sNil)) (mm := []) (xs := b.map D.str)
    (fun d => match d with | .str s => .bl (symB s) | _ => .non) (fun x hx => by
      obtain ⟨s, hs, rfl⟩ := List.mem_map.mp hx
      simp [lcStep, symbol_eq s (len7 (symB_len (h3 s hs)).2)]) []
  obtain ⟨t0, t1⟩ := two_at (.str a) (.tup (b.map D.str))
  simp at h2
  have hb : ¬ ((4 : Int) < (b.length : Nat)) := by omega
  have hb2 : b.length ≤ 10000000 := by omega
  simp [F_is_rule, defP, runP, B_is_rule, slotsP, ruleD, isiD, kdOf, kcOf, isa1, kitB, neD, t0, t1, head_eq a (len7 (headB_len h1).2), show headB a = true from h1, hb, hb2, e, Function.comp_def]
  rw [all_true h3]
  simp
theorem is_rank_eq {r : Str × List Str} (h : OkRank r) : F_is_rank [ruleD r] = .ok (.bl true) := by
  obtain ⟨a, b⟩ := r
  obtain ⟨h1, h2, h3, h4⟩ := h
  have e := lcL_map (sl := [some (.d (.tup [.str a, .tup (b.map D.str)])), none]) (vs := [1]) (tg := gN 1) (tt := tYes1) (te := sCall F_is_sign (sCons (sVar 1) sNil)) (mm := []) (xs := b.map D.str)
    (fun d => match d with | .str s => .bl (signB s) | _ => .non) (fun x hx => by
      obtain ⟨s, hs, rfl⟩ := List.mem_map.mp hx
      simp [lcStep, sign_eq s (len7 (signB_len (h4 s hs)).2)]) []
  obtain ⟨t0, t1⟩ := two_at (.str a) (.tup (b.map D.str))
  have hs : niD (.str a) (.kt (List.map D.str k_SIDES)) = some (.bl false) := by
    have h1 : a ∈ k_SIDES := h1
    simp [k_SIDES] at h1
    rcases h1 with rfl | rfl | rfl <;> simp [niD, inB, flatD, k_SIDES]
  simp at h2 h3
  have b1 : (1 : Int) ≤ (b.length : Nat) := by omega
  have b2 : ((b.length : Nat) : Int) ≤ 10 := by omega
  have hb2 : b.length ≤ 10000000 := by omega
  simp [F_is_rank, defP, runP, B_is_rank, slotsP, ruleD, isiD, kdOf, kcOf, isa1, kitB, neD, t0, t1, hs, b1, b2, hb2, e, Function.comp_def]
  rw [all_true h4]
  simp
/-! ### equality of rules -/
theorem okS_sides : ∀ s ∈ k_SIDES, okS s = true := by decide +kernel
def strsOk (r : Str × List Str) : Prop := okS r.1 = true ∧ ∀ s ∈ r.2, okS s = true
theorem OkRule.ok {r : Str × List Str} (h : OkRule r) : strsOk r := ⟨(sym_ok (s := r.1) (by simp [symB, h.hd])).1, fun s hs => (sym_ok (h.sy s hs)).1⟩
theorem OkRank.ok {r : Str × List Str} (h : OkRank r) : strsOk r := ⟨okS_sides _ h.si, fun s hs => (sym_ok (s := s) (by simp [symB, h.sg s hs])).1⟩
theorem eqv_rule (r q : Str × List Str) : eqv (ruleD r) (ruleD q) = decide (r = q) := by
  obtain ⟨a, b⟩ := r
  obtain ⟨c, d⟩ := q
  simp [ruleD, Prod.ext_iff, Bool.decide_and]
theorem ok_rule {r : Str × List Str} (h : strsOk r) : okD (ruleD r) = true ∧ depD (ruleD r) = 2 := by
  obtain ⟨h1, h2⟩ := okDs_strs h.2
  constructor
  · simp [ruleD, okD, okDs, h1, h.1]
  · simp [ruleD, depD, depDs, h2]
theorem ok_rules {R : List (Str × List Str)} (h : ∀ r ∈ R, strsOk r) : okDs (R.map ruleD) = true ∧ depDs (R.map ruleD) ≤ 2 := by
  induction R with
  | nil => exact ⟨rfl, Nat.zero_le _⟩
  | cons r R ih =>
    obtain ⟨h1, h2⟩ := ih fun x hx => h x (List.mem_cons_of_mem _ hx)
    obtain ⟨h3, h4⟩ := ok_rule (h r (List.mem_cons_self ..))
    constructor
    · simp [okDs, h1, h3]
    · simp [depDs, h4]; omega
theorem eqOk_rules {R : List (Str × List Str)} (h : ∀ r ∈ R, strsOk r) : eqOk (.lst (R.map ruleD)) = true ∧ eqOk (.tup (R.map ruleD)) = true := by
  obtain ⟨h1, h2⟩ := ok_rules h
  constructor <;> simp [eqOk, okD, depD, h1] <;> omega
theorem eqOk_rule {r : Str × List Str} (h : strsOk r) : eqOk (ruleD r) = true := by
  obtain ⟨h1, h2⟩ := ok_rule h
  simp [eqOk, h1, h2]
theorem in_rules {r : Str × List Str} {R : List (Str × List Str)} (h : strsOk r) (hR : ∀ q ∈ R, strsOk q) : inD (ruleD r) (.lst (R.map ruleD)) = some (.bl (decide (r ∈ R))) ∧ niD (ruleD r) (.lst (R.map ruleD)) = some (.bl (!decide (r ∈ R))) := by
  have f : flatD (ruleD r) = false := rfl
  have e : ((R.map ruleD).any fun z => eqv z (ruleD r)) = decide (r ∈ R) := by
    rw [Bool.eq_iff_iff, List.any_eq_true, decide_eq_true_eq]
    constructor
    · rintro ⟨z, hz, e⟩
      obtain ⟨q, hq, rfl⟩ := List.mem_map.mp hz
      rw [eqv_rule] at e
      exact of_decide_eq_true e ▸ hq
    · intro hr
      exact ⟨ruleD r, List.mem_map.mpr ⟨r, hr, rfl⟩, by rw [eqv_rule]; exact decide_eq_true rfl⟩
  have b : inB (ruleD r) (.lst (R.map ruleD)) = some (decide (r ∈ R)) := by
    simp only [inB, f, Bool.false_and, eqOk_rule h, (eqOk_rules hR).1, Bool.and_true, if_true, e]
    simp
  simp [inD, niD, b]
theorem in_strs (s : Str) (ss : List Str) : inD (.str s) (.lst (ss.map D.str)) = some (.bl (decide (s ∈ ss))) ∧ niD (.str s) (.lst (ss.map D.str)) = some (.bl (!decide (s ∈ ss))) := by
  have e : ((ss.map D.str).any fun z => eqv z (.str s)) = decide (s ∈ ss) := by
    rw [Bool.eq_iff_iff, List.any_eq_true, decide_eq_true_eq]
    constructor
    · rintro ⟨z, hz, e⟩
      obtain ⟨q, hq, rfl⟩ := List.mem_map.mp hz
      rw [eqv_str] at e
      exact of_decide_eq_true e ▸ hq
    · intro hr
      exact ⟨.str s, List.mem_map.mpr ⟨s, hr, rfl⟩, by rw [eqv_str]; exact decide_eq_true rfl⟩
  have f : (ss.map D.str).all flatD = true := by simp [flatD]
  have b : inB (.str s) (.lst (ss.map D.str)) = some (decide (s ∈ ss)) := by
    simp only [inB, f, flatD, Bool.and_true, if_true, e]
  simp [inD, niD, b]
/-! ### what is demanded of rules -/
structure OkRules (R : List (Str × List Str)) : Prop where
  ne : 1 ≤ R.length
  le : R.length ≤ 20
  ok : ∀ r ∈ R, OkRule r
  nd : R.Nodup
theorem need_rules_eq {R : List (Str × List Str)} (h : OkRules R) : F_need_rules [.lst (R.map ruleD)] = .ok .non := by
  have hso : ∀ r ∈ R, strsOk r := fun r hr => (h.ok r hr).ok
  have L := forL_keep (fg := [1, 2]) (tg := gT 2 (gsC (gN 1) (gsC (gN 2) gsN))) (xs := enumL (R.map ruleD)) (body := L_need_rules_1) (Γ0 := ⟨[some (.d (.lst (R.map ruleD))), none, none], []⟩) (Γ := ⟨[some (.d (.lst (R.map ruleD))), none, none], []⟩) (fun x hx => by
    obtain ⟨i, hi, rfl⟩ := List.mem_mapIdx.mp hx
    have hi' : i < R.length := by simpa using hi
    have hm : R[i] ∈ R := List.getElem_mem hi'
    have h1 := is_rule_eq (h.ok _ hm)
    have hc : cutD (R.map ruleD) none (some (i : Int)) = (R.take i).map ruleD := by
      have : ¬ ((i : Int) < 0) := by omega
      simp [cutD, HT.sIx, this, List.map_take, List.take_eq_take_iff]
    have h2 := (in_rules (R := R.take i) (hso _ hm) fun q hq => hso q (List.mem_of_mem_take hq)).1
    have h3 : R[i] ∉ R.take i := by
      intro z
      obtain ⟨k, hk, e⟩ := List.getElem_of_mem z
      rw [List.length_take] at hk
      rw [List.getElem_take] at e
      have := (List.getElem_inj h.nd).mp e
      omega
    rw [decide_eq_false h3, List.map_take] at h2
    simp only [List.getElem_map]
    simp [fStep, L_need_rules_1, h1, slD, hc, h2]) rfl
  have b1 : (1 : Int) ≤ (R.length : Nat) := by have := h.ne; omega
  have b2 : ((R.length : Nat) : Int) ≤ 20 := by have := h.le; omega
  simp [F_need_rules, defP, runP, B_need_rules, slotsP, isiD, kdOf, kcOf, isa1, kitB, b1, b2, enum1, L]
/-! ### what is demanded of ranks -/
/-- a dict of signs, all True -/
def dicD (ks : List Str) : D := .dic (ks.map Sum.inr) (ks.map fun _ => .bl true)
theorem find_dic (s : Str) : ∀ ks : List Str, findD (ks.map Sum.inr) (ks.map fun _ => D.bl true) (Sum.inr s : Key) = if s ∈ ks then some (.bl true) else none
  | [] => rfl
  | k :: ks => by
    simp only [List.map_cons, findD]
    by_cases h : k = s
    · subst h; simp
    · have : ¬ (Sum.inr k : Key) = Sum.inr s := fun z => h (by injection z)
      rw [if_neg this, find_dic s ks]
      simp [Ne.symm h]
theorem in_dic (s : Str) (ks : List Str) : inD (.str s) (dicD ks) = some (.bl (decide (s ∈ ks))) ∧ niD (.str s) (dicD ks) = some (.bl (!decide (s ∈ ks))) := by
  have b : inB (.str s) (dicD ks) = some (decide (s ∈ ks)) := by
    simp only [inB, dicD, dgetD, List.length_map, if_true, keyOf, Option.bind_some, find_dic]
    by_cases h : s ∈ ks <;> simp [h]
  simp [inD, niD, b]
/-- ks, with k where it isn't there -/
def putS (ks : List Str) (k : Str) : List Str := if k ∈ ks then ks else ks ++ [k]
theorem put_dic (s : Str) (ks : List Str) (h : ks.length < sizeLine) : putD (dicD ks) (.str s) (.bl true) = some (dicD (putS ks s)) := by
  simp only [putD, dicD, List.length_map, h, and_self, if_true, keyOf, Option.map_some]
  have m : (Sum.inr s : Key) ∈ ks.map Sum.inr ↔ s ∈ ks := by
    constructor
    · intro z
      obtain ⟨k, hk, e⟩ := List.mem_map.mp z
      injection e with e
      exact e ▸ hk
    · intro z
      exact List.mem_map.mpr ⟨s, z, rfl⟩
  have v : ∀ ks : List Str, dPutV (ks.map (Sum.inr : Str → Key)) (ks.map fun _ => D.bl true) (Sum.inr s) (.bl true) = ks.map fun _ => D.bl true := by
    intro ks
    induction ks with
    | nil => rfl
    | cons k ks ih => simp [dPutV, ih]
  by_cases hk : s ∈ ks
  · simp [dPutK, dPut, m, hk, putS, v]
  · simp [dPutK, dPut, m, hk, putS]
theorem putS_new {ks : List Str} {k : Str} (h : k ∉ ks) : putS ks k = ks ++ [k] := if_neg h
/-- ranks: none more than six, no sign in two places -/
structure OkRanks (K : List (Str × List Str)) : Prop where
  le : K.length ≤ 6
  ok : ∀ r ∈ K, OkRank r
  nd : (K.map (·.2)).flatten.Nodup
theorem sub_len {K : List (Str × List Str)} (h : OkRanks K) : ∀ {ys : List (Str × List Str)}, ys.Sublist K → (ys.map (·.2)).flatten.length ≤ ys.length * 10
  | [], _ => by simp
  | y :: ys, hs => by
    have h1 := sub_len h (ys := ys) ((List.sublist_cons_self y ys).trans hs)
    have h2 := (h.ok y (hs.subset (List.mem_cons_self ..))).le
    simp only [List.map_cons, List.flatten_cons, List.length_append, List.length_cons]
    omega
theorem need_ranks_eq {K : List (Str × List Str)} (h : OkRanks K) {x : D} (hx : x = .lst (K.map ruleD) ∨ x = .tup (K.map ruleD)) : F_need_ranks [x] = .ok .non := by
  have inner : ∀ (r : Str × List Str) (p : List Str), r.2.length ≤ 10 → p.length ≤ 100 → (p ++ r.2).Nodup → ∀ {Γ : Sg}, Γ.fg [0, 3] = ⟨[none, some (.lc 0), some (.d (ruleD r)), none], [.p (dicD p)]⟩ →
      forL [0, 3] (gN 3) L_need_ranks_2 (r.2.map D.str) Γ = .ok .nx ⟨[none, some (.lc 0), some (.d (ruleD r)), none], [.p (dicD (p ++ r.2))]⟩ := by
    intro r p h10 hp hn Γ hΓ
    have F := forL_map (fg := [0, 3]) (tg := gN 3) (body := L_need_ranks_2) D.str (as := r.2) (b := p) (Γ := Γ) (fun q => ⟨[none, some (.lc 0), some (.d (ruleD r)), none], [.p (dicD q)]⟩) (fun q s => q ++ [s])
      (fun ys q => q = p ++ ys) (fun ys zs s b hx hb => by
        subst hb
        rw [hx] at hn h10
        have hs : s ∉ p ++ ys := by
          rw [← List.append_assoc] at hn
          intro z
          exact (List.nodup_append.mp hn).2.2 s z s (List.mem_cons_self ..) rfl
        simp only [List.length_append, List.length_cons] at h10
        have hl : (p ++ ys).length < sizeLine := by
          rw [List.length_append, sizeLine]; omega
        have i1 := (in_dic s (p ++ ys)).1
        rw [decide_eq_false hs] at i1
        have i2 := put_dic s (p ++ ys) hl
        rw [putS_new hs] at i2
        refine ⟨?_, by simp⟩
        simp only [List.append_assoc] at i1 i2 ⊢
        simp [fStep, L_need_ranks_2, i1, i2]) hΓ (by simp)
    rw [F.1, F.2]
  have outer : ∀ {Γ : Sg}, Γ.fg [0, 2, 3] = ⟨[none, some (.lc 0), none, none], [.p (dicD [])]⟩ →
      ∃ q, forL [0, 2, 3] (gN 2) L_need_ranks_1 (K.map ruleD) Γ = .ok .nx ⟨[none, some (.lc 0), none, none], [.p (dicD q)]⟩ := by
    intro Γ hΓ
    have F := forL_map (fg := [0, 2, 3]) (tg := gN 2) (body := L_need_ranks_1) ruleD (as := K) (b := []) (Γ := Γ) (fun q => ⟨[none, some (.lc 0), none, none], [.p (dicD q)]⟩) (fun q r => q ++ r.2)
      (fun ys q => q = (ys.map (·.2)).flatten) (fun ys zs r b hk hb => by
        subst hb
        have hr : r ∈ K := by rw [hk]; simp
        have hn := h.nd
        have hl := sub_len h (ys := ys) (by rw [hk]; exact List.sublist_append_left ..)
        have hy : ys.length ≤ 6 := by have := h.le; rw [hk] at this; simp at this; omega
        rw [hk] at hn
        simp only [List.map_append, List.map_cons, List.flatten_append, List.flatten_cons] at hn
        rw [← List.append_assoc] at hn
        have hn := (List.nodup_append.mp hn).1
        have i1 := is_rank_eq (h.ok r hr)
        obtain ⟨_, t1⟩ := two_at (.str r.1) (.tup (r.2.map D.str))
        have t1 : ixD (ruleD r) (.int 1) = some (.tup (r.2.map D.str)) := t1
        have i2 := inner r _ (h.ok r hr).le (by omega) hn (Γ := ⟨[none, some (.lc 0), some (.d (ruleD r)), none], [.p (dicD ((ys.map (·.2)).flatten))]⟩) rfl
        refine ⟨?_, by simp⟩
        simp [fStep, L_need_ranks_1, i1, t1, i2]) hΓ rfl
    exact ⟨_, F.1⟩
  have hl : ¬ ((6 : Int) < (K.length : Nat)) := by have := h.le; omega
  have hz : (2 : Nat) ≤ sizeLine := by decide
  have j1 : ∀ ds, isiD isa [.lst ds, .tup [.ty "list", .ty "tuple"]] = some (.bl true) := fun ds => by
    have e : anyO [kitB "list" "list", kitB "list" "tuple"] = some true := by decide +kernel
    show ((anyO [kitB "list" "list", kitB "list" "tuple"]).bind fun b => some (D.bl b)) = _
    rw [e]
    rfl
  have j2 : ∀ ds, isiD isa [.tup ds, .tup [.ty "list", .ty "tuple"]] = some (.bl true) := fun ds => by
    have e : anyO [kitB "tuple" "list", kitB "tuple" "tuple"] = some true := by decide +kernel
    show ((anyO [kitB "tuple" "list", kitB "tuple" "tuple"]).bind fun b => some (D.bl b)) = _
    rw [e]
    rfl
  rcases hx with rfl | rfl
  · obtain ⟨q, hq⟩ := outer (Γ := ⟨[some (.d (.lst (K.map ruleD))), some (.lc 0), none, none], [.p (dicD [])]⟩) rfl
    simp [dicD] at hq
    simp [F_need_ranks, defP, runP, B_need_ranks, slotsP, j1, j2, hl, hz, dicD, hq]
  · obtain ⟨q, hq⟩ := outer (Γ := ⟨[some (.d (.tup (K.map ruleD))), some (.lc 0), none, none], [.p (dicD [])]⟩) rfl
    simp [dicD] at hq
    simp [F_need_ranks, defP, runP, B_need_ranks, slotsP, j1, j2, hl, hz, dicD, hq]
/-! ### the grammar -/
theorem nodup_len : ∀ {q S : List Str}, q.Nodup → (∀ s ∈ q, s ∈ S) → q.length ≤ S.length
  | [], _, _, _ => Nat.zero_le _
  | a :: q, S, hn, hs => by
    obtain ⟨h1, h2⟩ := List.nodup_cons.mp hn
    have ha := hs a (List.mem_cons_self ..)
    have h3 := nodup_len (S := S.erase a) h2 fun s hq => (List.mem_erase_of_ne (fun e : s = a => h1 (by rw [← e]; exact hq))).mpr (hs s (List.mem_cons_of_mem _ hq))
    have h4 := List.length_erase_of_mem ha
    have h5 := List.length_pos_of_mem ha
    rw [List.length_cons]
    omega
structure OkG (R : List (Str × List Str)) : Prop where
  rs : OkRules R
  hs : ∀ r ∈ R, ∀ s ∈ r.2, headB s = true → s ∈ R.map (·.1)
  nh : (ded (R.map (·.1))).length ≤ 8
  ns : ∃ S : List Str, S.length ≤ 10 ∧ ∀ r ∈ R, ∀ s ∈ r.2, signB s = true → s ∈ S
def headsD (R : List (Str × List Str)) : D := .lst ((sortS (ded (R.map (·.1)))).map D.str)
theorem heads_eq {R : List (Str × List Str)} (hR : R.length ≤ 20) {mm : List Cell} {L : Nat} {ns : List String} {ds : List D} (hf : mm.all flatC = true) (hm : mm[L]? = some (.p (.obj "Grammar" ns ds))) (hr : (ns.zip ds).lookup "rules" = some (.tup (R.map ruleD))) :
    F_Grammar_heads_b [.lc L] mm = .ok (headsD R) mm := by
  have e := lcL_map (sl := [some (.lc L), none, none]) (vs := [1, 2]) (tg := gT 2 (gsC (gN 1) (gsC (gN 2) gsN))) (tt := tYes1) (te := sVar 1) (mm := mm) (xs := R.map ruleD)
    (fun d => match d with | .tup [.str h, _] => .str h | _ => .non) (fun x hx => by
      obtain ⟨r, hr, rfl⟩ := List.mem_map.mp hx
      simp [lcStep, ruleD]) []
  have hl : R.length ≤ 10000000 := by omega
  have hfld : fldD fldO fldX "rules" (.obj "Grammar" ns ds) = some (.tup (R.map ruleD)) := by
    rw [fldD, if_pos (by decide)]; exact hr
  have h64 : R.length < 64 := by omega
  simp only [List.map_map, List.nil_append] at e
  have e2 : List.map ((fun d => match d with | D.tup [D.str h, _] => D.str h | _ => D.non) ∘ ruleD) R = (R.map (·.1)).map D.str := by
    rw [List.map_map]; rfl
  rw [e2] at e
  have hs : srtD (.lst ((R.map (·.1)).map D.str)) = some (headsD R) := by
    simp only [srtD, itemsL_lst, Option.bind_some, strsO_map, List.length_map, h64, if_true, headsD]
  simp [F_Grammar_heads_b, defB, runB, B_Grammar_heads_b, slotsU, hm, hfld, hl]
  simp at e hs
  rw [e]
  simp [hs, cutM_all hf]
/-- the signs met so far, with those of a body -/
def putB (q : List Str) (b : List Str) : List Str := b.foldl (fun q s => if signB s then putS q s else q) q
theorem putB_ok {S : List Str} : ∀ {b q : List Str}, (q.Nodup ∧ ∀ s ∈ q, s ∈ S) → (∀ s ∈ b, signB s = true → s ∈ S) → ((putB q b).Nodup ∧ ∀ s ∈ putB q b, s ∈ S)
  | [], _, h, _ => h
  | s :: b, q, h, hb => by
    refine putB_ok (b := b) (q := if signB s then putS q s else q) ?_ fun t ht => hb t (List.mem_cons_of_mem _ ht)
    by_cases e : signB s = true
    · rw [if_pos e]
      unfold putS
      by_cases hm : s ∈ q
      · rw [if_pos hm]; exact h
      · rw [if_neg hm]
        refine ⟨List.nodup_append.mpr ⟨h.1, by simp, fun a ha c hc => ?_⟩, fun t ht => ?_⟩
        · rw [List.mem_singleton.mp hc]; exact fun z => hm (z ▸ ha)
        · rcases List.mem_append.mp ht with ht | ht
          · exact h.2 t ht
          · rw [List.mem_singleton.mp ht]; exact hb s (List.mem_cons_self ..) e
    · rw [if_neg e]; exact h
theorem keyStrs_map : ∀ q : List Str, keyStrs (q.map Sum.inr) = some q
  | [] => rfl
  | s :: q => by simp [keyStrs, keyStrs_map q]
theorem signs_eq {R : List (Str × List Str)} (h : OkG R) {mm : List Cell} {L : Nat} {ns : List String} {ds : List D} (hf : mm.all flatC = true) (hm : mm[L]? = some (.p (.obj "Grammar" ns ds))) (hr : (ns.zip ds).lookup "rules" = some (.tup (R.map ruleD))) :
    ∃ q : List Str, q.length ≤ 10 ∧ F_Grammar_signs_b [.lc L] mm = .ok (.lst ((sortS q).map D.str)) mm := by
  obtain ⟨S, hS, hsS⟩ := h.ns
  have inner : ∀ (r : Str × List Str), OkRule r → ∀ (q : List Str), (q.Nodup ∧ ∀ s ∈ q, s ∈ S) → (∀ s ∈ r.2, signB s = true → s ∈ S) → ∀ {Γ : Sg}, Γ.fg [0, 2, 3, 4] = ⟨[none, some (.lc mm.length), none, none, none], mm ++ [.p (dicD q)]⟩ →
      forL [0, 2, 3, 4] (gN 4) L_Grammar_signs_b_2 (r.2.map D.str) Γ = .ok .nx ⟨[none, some (.lc mm.length), none, none, none], mm ++ [.p (dicD (putB q r.2))]⟩ := by
    intro r hrr q hq hb Γ hΓ
    have F := forL_map (fg := [0, 2, 3, 4]) (tg := gN 4) (body := L_Grammar_signs_b_2) D.str (as := r.2) (b := q) (Γ := Γ) (fun q => ⟨[none, some (.lc mm.length), none, none, none], mm ++ [.p (dicD q)]⟩) (fun q s => if signB s then putS q s else q)
      (fun _ q => q.Nodup ∧ ∀ s ∈ q, s ∈ S) (fun ys zs s p hx hp => by
        have hs : s ∈ r.2 := by rw [hx]; simp
        have hl := nodup_len hp.1 hp.2
        have hz : p.length < sizeLine := Nat.lt_of_le_of_lt (Nat.le_trans hl hS) (by decide)
        have h1 := sign_eq s (len7 (symB_len (hrr.sy s hs)).2)
        have h2 := put_dic s p hz
        refine ⟨?_, putB_ok (b := [s]) hp fun t ht => by rw [List.mem_singleton.mp ht]; exact hb s hs⟩
        cases e : signB s <;> simp [fStep, L_Grammar_signs_b_2, h1, e, h2]) hΓ hq
    exact F.1
  have outer : ∀ {Γ : Sg}, Γ.fg [0, 2, 3, 4] = ⟨[none, some (.lc mm.length), none, none, none], mm ++ [.p (dicD [])]⟩ → ∃ q : List Str, (q.Nodup ∧ ∀ s ∈ q, s ∈ S) ∧
      forL [0, 2, 3, 4] (gT 2 (gsC (gN 2) (gsC (gN 3) gsN))) L_Grammar_signs_b_1 (R.map ruleD) Γ = .ok .nx ⟨[none, some (.lc mm.length), none, none, none], mm ++ [.p (dicD q)]⟩ := by
    intro Γ hΓ
    have F := forL_map (fg := [0, 2, 3, 4]) (tg := gT 2 (gsC (gN 2) (gsC (gN 3) gsN))) (body := L_Grammar_signs_b_1) ruleD (as := R) (b := []) (Γ := Γ) (fun q => ⟨[none, some (.lc mm.length), none, none, none], mm ++ [.p (dicD q)]⟩) (fun q r => putB q r.2)
      (fun _ q => q.Nodup ∧ ∀ s ∈ q, s ∈ S) (fun ys zs r p hx hp => by
        have hrR : r ∈ R := by rw [hx]; simp
        have i2 := inner r (h.rs.ok r hrR) p hp (hsS r hrR) (Γ := ⟨[none, some (.lc mm.length), some (.d (.str r.1)), some (.d (.tup (r.2.map D.str))), none], mm ++ [.p (dicD p)]⟩) rfl
        refine ⟨?_, putB_ok hp (hsS r hrR)⟩
        simp [fStep, L_Grammar_signs_b_1, ruleD, i2]) hΓ ⟨List.nodup_nil, fun _ z => nomatch z⟩
    exact ⟨_, F.2, F.1⟩
  have hfld : fldD fldO fldX "rules" (.obj "Grammar" ns ds) = some (.tup (R.map ruleD)) := by
    rw [fldD, if_pos (by decide)]; exact hr
  obtain ⟨q, hq, hF⟩ := outer (Γ := ⟨[some (.lc L), some (.lc mm.length), none, none, none], mm ++ [.p (dicD [])]⟩) rfl
  have hl := nodup_len hq.1 hq.2
  refine ⟨q, Nat.le_trans hl hS, ?_⟩
  have hm' : (mm ++ [.p (dicD [])])[L]? = some (.p (.obj "Grammar" ns ds)) := by
    rw [List.getElem?_append_left (List.getElem?_eq_some_iff.mp hm).1]; exact hm
  have h64 : q.length < 64 := by omega
  have hs : sortedD [dicD q] = some (.lst ((sortS q).map D.str)) := by
    simp only [sortedD, dicD, keyStrs_map, Option.bind_some, h64, if_true]
  simp [dicD] at hF hm' hs
  simp [F_Grammar_signs_b, defB, runB, B_Grammar_signs_b, slotsU, hm', hfld, hF, hs, cutM_app hf, dicD]
theorem tb_h : tb_heads.lookup "Grammar" = some F_Grammar_heads_b := rfl
theorem tb_s : tb_signs.lookup "Grammar" = some F_Grammar_signs_b := rfl
theorem tb_n : tb_need_heads.lookup "Grammar" = some F_Grammar_need_heads_b := rfl
theorem mem_sortS {k : Str} {xs : List Str} : k ∈ sortS xs ↔ k ∈ xs := (sortS_perm xs).mem_iff
theorem need_heads_eq {R : List (Str × List Str)} (h : OkG R) {mm : List Cell} {L : Nat} {ns : List String} {ds : List D} (hf : mm.all flatC = true) (hm : mm[L]? = some (.p (.obj "Grammar" ns ds))) (hr : (ns.zip ds).lookup "rules" = some (.tup (R.map ruleD)))
    (n1 : "heads" ∉ ns) (n2 : "signs" ∉ ns) : F_Grammar_need_heads_b [.lc L] mm = .ok .non mm := by
  have h1 := heads_eq h.rs.le hf hm hr
  obtain ⟨q, hq, h2⟩ := signs_eq h hf hm hr
  have hfld : fldD fldO fldX "rules" (.obj "Grammar" ns ds) = some (.tup (R.map ruleD)) := by
    rw [fldD, if_pos (by decide)]; exact hr
  have inner : ∀ (r : Str × List Str), r ∈ R → ∀ {Γ : Sg}, Γ.fg [2, 3, 4] = ⟨[some (.lc L), some (.d (headsD R)), none, none, none], mm⟩ →
      forL [2, 3, 4] (gN 4) L_Grammar_need_heads_b_2 (r.2.map D.str) Γ = .ok .nx ⟨[some (.lc L), some (.d (headsD R)), none, none, none], mm⟩ := by
    intro r hrR Γ hΓ
    refine forL_mapK D.str (fun s hs => ?_) hΓ
    have h3 := head_eq s (len7 (symB_len ((h.rs.ok r hrR).sy s hs)).2)
    cases e : headB s with
    | false => simp [fStep, L_Grammar_need_heads_b_2, h3, e]
    | true =>
      have h4 := (in_strs s (sortS (ded (R.map (·.1))))).2
      have h5 : s ∈ sortS (ded (R.map (·.1))) := mem_sortS.mpr (mem_ded.mpr (h.hs r hrR s hs e))
      rw [decide_eq_true h5] at h4
      have h4 : niD (.str s) (headsD R) = some (.bl false) := h4
      simp [fStep, L_Grammar_need_heads_b_2, h3, e, h4]
  have outer : ∀ {Γ : Sg}, Γ.fg [2, 3, 4] = ⟨[some (.lc L), some (.d (headsD R)), none, none, none], mm⟩ →
      forL [2, 3, 4] (gT 2 (gsC (gN 2) (gsC (gN 3) gsN))) L_Grammar_need_heads_b_1 (R.map ruleD) Γ = .ok .nx ⟨[some (.lc L), some (.d (headsD R)), none, none, none], mm⟩ := by
    intro Γ hΓ
    refine forL_mapK ruleD (fun r hrR => ?_) hΓ
    have i2 := inner r hrR (Γ := ⟨[some (.lc L), some (.d (headsD R)), some (.d (.str r.1)), some (.d (.tup (r.2.map D.str))), none], mm⟩) rfl
    simp [fStep, L_Grammar_need_heads_b_1, ruleD, i2]
  have o := outer (Γ := ⟨[some (.lc L), some (.d (headsD R)), none, none, none], mm⟩) rfl
  have l1 : lenD [headsD R] = some (.int ((sortS (ded (R.map (·.1)))).length : Nat)) := by
    rw [headsD, lenD_lst, List.length_map]
  have l2 : (sortS (ded (R.map (·.1)))).length ≤ 8 := by rw [(sortS_perm _).length_eq]; exact h.nh
  have l3 : ¬ ((8 : Int) < ((sortS (ded (R.map (·.1)))).length : Nat)) := by omega
  have l4 : (sortS q).length ≤ 10 := by rw [(sortS_perm _).length_eq]; exact hq
  have l5 : ¬ ((10 : Int) < ((sortS q).length : Nat)) := by omega
  simp [F_Grammar_need_heads_b, defB, runB, B_Grammar_need_heads_b, slotsU, hm, n1, n2, tb_h, tb_s, h1, h2, hfld, o, l1, l3, l5, cutM_all hf]
/-- the grammar's object -/
def gramD (R K : List (Str × List Str)) (s : Str) : D := .obj "Grammar" ["rules", "start", "ranks"] [.tup (R.map ruleD), .str s, .tup (K.map ruleD)]
theorem init_eq {R K : List (Str × List Str)} {r0 : Str × List Str} (h : OkG R) (h0 : R[0]? = some r0) (hk : OkRanks K) {mm : List Cell} (hf : mm.all flatC = true) {x : D} (hx : x = .lst (K.map ruleD) ∨ x = .tup (K.map ruleD)) :
    F_Grammar_init [.lc mm.length, .d (.lst (R.map ruleD)), .d x] (mm ++ [.p (.obj "Grammar" [] [])]) = .ok .non (mm ++ [.p (gramD R K r0.1)]) := by
  have h1 := need_rules_eq h.rs
  have h2 := need_ranks_eq hk hx
  have nn : isNon x = false := by rcases hx with rfl | rfl <;> rfl
  have tx : tupD [x] = some (.tup (K.map ruleD)) := by rcases hx with rfl | rfl <;> rfl
  have g : ∀ d : D, (mm ++ [Cell.p d])[mm.length]? = some (.p d) := fun d => by simp
  have st : ∀ d e : D, (mm ++ [Cell.p d]).set mm.length (.p e) = mm ++ [.p e] := fun d e => by simp
  have ff : ∀ d : D, (mm ++ [Cell.p d]).all flatC = true := fun d => by simpa [flatC] using hf
  have h3 := need_heads_eq h (mm := mm ++ [.p (.obj "Grammar" ["rules", "start"] [.tup (R.map ruleD), .str r0.1])]) (L := mm.length) (ff _) (g _) rfl (by decide) (by decide)
  have i0 : ixD (.tup (R.map ruleD)) (.int 0) = some (ruleD r0) := by
    obtain ⟨hp, e⟩ := List.getElem?_eq_some_iff.mp h0
    simp [ixD, atD, atI, ixN, hp, e]
  have i1 : ixD (ruleD r0) (.int 0) = some (.str r0.1) := (two_at _ _).1
  have f1 : fldD fldO fldX "rules" (.obj "Grammar" ["rules"] [.tup (R.map ruleD)]) = some (.tup (R.map ruleD)) := rfl
  have tr : tupD [.lst (R.map ruleD)] = some (.tup (R.map ruleD)) := rfl
  have m1 : ("Grammar", "rules") ∈ fldO := by decide
  have m2 : ("Grammar", "start") ∈ fldO := by decide
  have m3 : ("Grammar", "ranks") ∈ fldO := by decide
  have hz : (mm ++ [Cell.p (gramD R K r0.1)]).length = (mm ++ [Cell.p (.obj "Grammar" [] [])]).length := by simp
  have hcut := cutM_all (ff (gramD R K r0.1)) hz
  simp [gramD] at hcut
  simp [F_Grammar_init, defB, runB, B_Grammar_init, slotsU, h1, h2, h3, tx, tr, nn, m1, m2, m3, fNs, fPut, i0, i1, f1, tb_n, gramD, hcut]
/-! ### words parted at the bar -/
def barS := Str.ofString "|"
def partF (P : List (List Str)) (w : Str) : List (List Str) := if w = barS then P ++ [[]] else P.dropLast ++ [(P.getLast?.getD []) ++ [w]]
def partW (ws : List Str) : List (List Str) := ws.foldl partF [[]]
structure PInv (P : List (List Str)) (Γ : Sg) : Prop where
  ex : ∃ (ks : List Nat) (mm : List Cell), Γ = ⟨[none, some (.lc 1), none], mm⟩ ∧ ks.Nodup ∧ 1 ∉ ks ∧ ks.length = P.length ∧ (∀ k ∈ ks, k < mm.length) ∧ mm[1]? = some (.n (ks.map .lc)) ∧
    ∀ (i k : Nat) (p : List Str), ks[i]? = some k → P[i]? = some p → mm[k]? = some (.p (.lst (p.map D.str)))
theorem partF_len (P : List (List Str)) (w : Str) : (partF P w).length ≤ P.length + 1 := by
  unfold partF
  split <;> simp <;> omega
theorem partF_ne {P : List (List Str)} {w : Str} : 1 ≤ (partF P w).length := by
  unfold partF
  split <;> simp
theorem part_sum (P : List (List Str)) (w : Str) : (partF P w).flatten.length ≤ P.flatten.length + 1 := by
  unfold partF
  split
  · simp
  · rcases List.eq_nil_or_concat P with rfl | ⟨Q, q, rfl⟩
    · simp
    · simp; omega
theorem parted_step {P : List (List Str)} {w : Str} {Γ : Sg} (h1 : 1 ≤ P.length) (h2 : P.length < 1000) (h3 : ∀ p ∈ P, p.length < 1000) (I : PInv P Γ) : ∃ Γ', fStep [0, 2] (gN 2) L_parted_words_1 (.str w) Γ = some Γ' ∧ PInv (partF P w) Γ' := by
  obtain ⟨ks, mm, rfl, n1, n2, n3, n4, n5, n6⟩ := I.ex
  have hz : ks.length < sizeLine := by rw [n3, sizeLine]; omega
  by_cases hw : w = barS
  · have hw' : w = Str.ofString "|" := hw
    have h5 : (mm ++ [Cell.p (.lst [])])[1]? = some (.n (ks.map .lc)) := by
      rw [List.getElem?_append_left (List.getElem?_eq_some_iff.mp n5).1]; exact n5
    refine ⟨⟨[none, some (.lc 1), none], (mm ++ [Cell.p (.lst [])]).set 1 (.n ((ks ++ [mm.length]).map .lc))⟩, ?_, ⟨ks ++ [mm.length], _, rfl, ?_, ?_, ?_, ?_, ?_, ?_⟩⟩
    · simp [fStep, L_parted_words_1, hw', n5, h5, hz]
    · exact List.nodup_append.mpr ⟨n1, by simp, fun a ha b hb e => by
        rw [List.mem_singleton.mp hb] at e
        have := n4 a ha
        omega⟩
    · intro z
      rcases List.mem_append.mp z with z | z
      · exact n2 z
      · have := (List.getElem?_eq_some_iff.mp n5).1
        have := List.mem_singleton.mp z
        omega
    · simp [partF, hw, n3]
    · intro k hk
      rw [List.length_set, List.length_append]
      rcases List.mem_append.mp hk with hk | hk
      · have := n4 k hk; simp; omega
      · rw [List.mem_singleton.mp hk]; simp
    · rw [List.getElem?_set_self (List.getElem?_eq_some_iff.mp h5).1]
    · intro i k p a b
      have hk1 : k ≠ 1 := fun e => by
        subst e
        rcases List.mem_append.mp (List.mem_of_getElem? a) with z | z
        · exact n2 z
        · have := (List.getElem?_eq_some_iff.mp n5).1
          have := List.mem_singleton.mp z
          omega
      rw [List.getElem?_set_ne (Ne.symm hk1)]
      have b' : (P ++ [[]])[i]? = some p := by simpa [partF, hw] using b
      by_cases hi : i < ks.length
      · rw [List.getElem?_append_left hi] at a
        rw [List.getElem?_append_left (by omega)] at b'
        rw [List.getElem?_append_left (n4 k (List.mem_of_getElem? a))]
        exact n6 i k p a b'
      · have hi2 : i = ks.length := by
          have := (List.getElem?_eq_some_iff.mp a).1
          simp at this
          omega
        subst hi2
        rw [List.getElem?_append_right (Nat.le_refl _)] at a
        rw [List.getElem?_append_right (by omega)] at b'
        simp at a
        simp [n3] at b'
        subst a b'
        simp
  · have hw' : ¬ w = Str.ofString "|" := hw
    obtain ⟨Q, q, rfl⟩ : ∃ Q q, P = Q ++ [q] := by
      rcases List.eq_nil_or_concat P with rfl | ⟨Q, q, e⟩
      · simp at h1
      · exact ⟨Q, q, by rw [e, List.concat_eq_append]⟩
    obtain ⟨ls, k, rfl⟩ : ∃ ls k, ks = ls ++ [k] := by
      rcases List.eq_nil_or_concat ks with rfl | ⟨Q, q, e⟩
      · simp at n3
      · exact ⟨Q, q, by rw [e, List.concat_eq_append]⟩
    have n3' : ls.length = Q.length := by simpa using n3
    have ck := n6 ls.length k q (by simp) (by rw [n3']; simp)
    have hk : k < mm.length := n4 k (by simp)
    have k1 : k ≠ 1 := fun e => n2 (by rw [← e]; simp)
    have hq : q.length < sizeLine := by have := h3 q (by simp); rw [sizeLine]; omega
    have hat : atI ((ls ++ [k]).map U.lc) (-1) = some (.lc k) := by
      have a1 : ¬ (0 : Int) ≤ -1 := by decide
      have a2 : -(((ls.length + 1 : Nat)) : Int) ≤ -1 := by omega
      have a3 : (-1 + ((ls.length + 1 : Nat) : Int)).toNat = ls.length := by omega
      simp only [atI, ixN, List.length_map, List.length_append, List.length_cons, List.length_nil, Nat.zero_add, if_neg a1, if_pos a2, Option.bind_some, a3]
      simp
    refine ⟨⟨[none, some (.lc 1), none], mm.set k (.p (.lst (q.map D.str ++ [.str w])))⟩, ?_, ⟨ls ++ [k], _, rfl, n1, n2, ?_, ?_, ?_, ?_⟩⟩
    · simp only [List.map_append, List.map_cons, List.map_nil] at n5 hat
      simp [fStep, L_parted_words_1, hw', n5, negD, hat, ck, hq]
    · simp [partF, hw, n3']
    · intro j hj; rw [List.length_set]; exact n4 j hj
    · rw [List.getElem?_set_ne k1]; exact n5
    · intro i j p a b
      have b' : (Q ++ [q ++ [w]])[i]? = some p := by simpa [partF, hw] using b
      by_cases hi : i < ls.length
      · have aj : ls[i]? = some j := by rwa [List.getElem?_append_left hi] at a
        have jk : j ≠ k := by
          intro e
          subst e
          exact (List.nodup_append.mp n1).2.2 j (List.mem_of_getElem? aj) j (by simp) rfl
        rw [List.getElem?_set_ne (Ne.symm jk)]
        rw [List.getElem?_append_left (by omega)] at b'
        exact n6 i j p a (by rw [List.getElem?_append_left (by omega)]; exact b')
      · have hi2 : i = ls.length := by
          have := (List.getElem?_eq_some_iff.mp a).1
          simp at this
          omega
        subst hi2
        rw [List.getElem?_append_right (Nat.le_refl _)] at a
        rw [List.getElem?_append_right (by omega)] at b'
        simp at a
        simp [n3'] at b'
        subst a b'
        rw [List.getElem?_set_self hk]
        simp
theorem parted_eq {ws : List Str} (h : ws.length ≤ 500) : F_parted_words [.lst (ws.map D.str)] = .ok (.lst ((partW ws).map fun p => .lst (p.map D.str))) := by
  obtain ⟨Γ', h1, h2⟩ := forL_rel (fg := [0, 2]) (tg := gN 2) (body := L_parted_words_1) D.str (as := ws) (fun ys Γ => PInv (partW ys) Γ ∧ 1 ≤ (partW ys).length ∧ (partW ys).length ≤ ys.length + 1 ∧ (partW ys).flatten.length ≤ ys.length)
    (Γ := ⟨[some (.d (.lst (ws.map D.str))), some (.lc 1), none], [.p (.lst []), .n [.lc 0]]⟩) (fun ys zs a Γ hx I => by
      obtain ⟨I, i1, i2, i3⟩ := I
      have hl : ys.length < ws.length := by rw [hx]; simp
      have e : partW (ys ++ [a]) = partF (partW ys) a := by simp [partW]
      obtain ⟨Γ', j1, j2⟩ := parted_step (w := a) i1 (by omega) (fun p hp => by
        have := (List.sublist_flatten_of_mem hp).length_le
        omega) I
      refine ⟨Γ', j1, ?_⟩
      rw [e]
      have := partF_len (partW ys) a
      have := part_sum (partW ys) a
      exact ⟨j2, partF_ne, by rw [List.length_append, List.length_singleton]; omega, by rw [List.length_append, List.length_singleton]; omega⟩)
    ⟨⟨[0], [.p (.lst []), .n [.lc 0]], rfl, by simp, by simp, rfl, by simp, rfl, fun i k p a b => by
      cases i with
      | zero => simp [partW] at a b; subst a b; rfl
      | succ i => simp at a⟩, by simp [partW], by simp [partW], by simp [partW]⟩
  obtain ⟨⟨ks, mm, rfl, n1, n2, n3, n4, n5, n6⟩, _⟩ := h2
  obtain ⟨Γ2, f1, f2⟩ := fzAll_ok (j := 1) (ks := ks) (ds := (partW ws).map fun p => .lst (p.map D.str)) (pre := []) (Γ := ⟨[none, some (.lc 1), none], mm⟩) n1 n2 (by rw [n3, List.length_map]) (fun i k d a b => by
    rw [List.getElem?_map] at b
    obtain ⟨p, hp, rfl⟩ := Option.map_eq_some_iff.mp b
    exact n6 i k p a hp) (by simpa using n5)
  simp only [List.nil_append] at f2
  have pm := pus_map ((partW ws).map fun p => D.lst (p.map D.str))
  simp [F_parted_words, defP, runP, B_parted_words, slotsP, sLstN, sizeLine, h1, n5, f1]
  rw [f2]
  dsimp only
  rw [pm]
  rfl
/-! ### rows and words -/
abbrev spS := Str.ofString " "
def rowT (ws : List Str) : Str := Txt.join spS ws
theorem sp_len : spS.length = 1 := by decide +kernel
theorem rowT_len {ws : List Str} (h : ∀ w ∈ ws, w.length ≤ 7) : (rowT ws).length ≤ ws.length * 8 := by
  have l1 := len_tjoin spS ws
  have l2 := sumLen_le h
  rw [sp_len] at l1
  show (Txt.join spS ws).length ≤ _
  omega
structure Words (ws : List Str) : Prop where
  ne : ws ≠ []
  le : ws.length ≤ 400
  ok : ∀ w ∈ ws, w.length ≤ 7 ∧ 32 ∉ tl w
theorem split_row {ws : List Str} (h : Words ws) : splitD (.str (rowT ws)) (.str spS) = some (.lst (ws.map D.str)) := by
  have hs : Txt.split (rowT ws) spS = ws := TL.split_join (s := 32) (S := []) (by decide +kernel) (by decide +kernel) h.ne fun p hp => (h.ok p hp).2
  have l := rowT_len fun w hw => (h.ok w hw).1
  have := h.le
  rw [splitD, hs, if_pos ⟨by decide +kernel, Nat.le_trans (show _ ≤ 4000 by omega) (by decide)⟩]
/-! ### bodies -/
abbrev tilS := Str.ofString "~"
abbrev colS := Str.ofString ":"
def bodyW (b : List Str) : List Str := if b = [] then [tilS] else b
theorem til_no : symB tilS = false := by decide +kernel
theorem bar_no : symB barS = false := by decide +kernel
theorem okB_til : okS tilS = true := by decide +kernel
structure OkBody (b : List Str) : Prop where
  le : b.length ≤ 4
  sy : ∀ s ∈ b, symB s = true
theorem body_in_eq {b : List Str} (h : OkBody b) : F_body_in [.lst ((bodyW b).map D.str)] = .ok (.tup (b.map D.str)) := by
  have hz : (1 : Nat) ≤ sizeLine := by decide
  have t1 : ∀ s ∈ [tilS], okS s = true := by simp [okB_til]
  by_cases hb : b = []
  · subst hb
    have e := eqD_strs t1 t1
    simp only [List.map_cons, List.map_nil] at e
    simp [F_body_in, defP, runP, B_body_in, slotsP, bodyW, hz, e]
  · have hw : bodyW b = b := if_neg hb
    rw [hw]
    have ok : ∀ s ∈ b, okS s = true := fun s hs => (sym_ok (h.sy s hs)).1
    have e1 := eqD_strs ok t1
    have n1 : b ≠ [tilS] := fun z => by
      have := h.sy tilS (by rw [z]; simp)
      rw [til_no] at this
      cases this
    rw [decide_eq_false n1] at e1
    have e2 := eqD_strs (tt := []) ok (by simp)
    rw [decide_eq_false hb] at e2
    have e := lcL_map (sl := [some (.d (.lst (b.map D.str))), none]) (vs := [1]) (tg := gN 1) (tt := tYes1) (te := sCall F_is_symbol (sCons (sVar 1) sNil)) (mm := []) (xs := b.map D.str)
      (fun d => match d with | .str s => .bl (symB s) | _ => .non) (fun x hx => by
        obtain ⟨s, hs, rfl⟩ := List.mem_map.mp hx
        simp [lcStep, symbol_eq s (len7 (symB_len (h.sy s hs)).2)]) []
    have hl : b.length ≤ 10000000 := by have := h.le; omega
    have ha := all_true h.sy
    simp at e1 e2
    simp [F_body_in, defP, runP, B_body_in, slotsP, hz, e1, e2, hl, e, Function.comp_def]
    rw [ha]
    simp [tupD]
/-- words, a bar between -/
def inter : List (List Str) → List Str
  | [] => []
  | [w] => w
  | w :: v :: r => w ++ barS :: inter (v :: r)
theorem fold_part {ws : List Str} (h : barS ∉ ws) : ∀ (Q : List (List Str)) (q : List Str), ws.foldl partF (Q ++ [q]) = Q ++ [q ++ ws] := by
  induction ws with
  | nil => intro Q q; simp
  | cons w ws ih =>
    intro Q q
    have hw : ¬ w = barS := fun e => h (by rw [e]; simp)
    rw [List.foldl_cons]
    have : partF (Q ++ [q]) w = Q ++ [q ++ [w]] := by simp [partF, hw]
    rw [this, ih fun z => h (List.mem_cons_of_mem _ z)]
    simp
theorem fold_inter : ∀ {r : List (List Str)} {w : List Str}, (∀ v ∈ w :: r, barS ∉ v) → ∀ (Q : List (List Str)) (q : List Str), (inter (w :: r)).foldl partF (Q ++ [q]) = Q ++ (q ++ w) :: r
  | [], w, h, Q, q => fold_part (h w (by simp)) Q q
  | v :: r, w, h, Q, q => by
    rw [inter, List.foldl_append, fold_part (h w (by simp)) Q q, List.foldl_cons]
    have : partF (Q ++ [q ++ w]) barS = (Q ++ [q ++ w]) ++ [[]] := by simp [partF]
    rw [this, fold_inter (r := r) (w := v) (fun u hu => h u (List.mem_cons_of_mem _ hu))]
    simp
theorem partW_inter {bs : List (List Str)} (hne : bs ≠ []) (h : ∀ v ∈ bs, barS ∉ v) : partW (inter bs) = bs := by
  cases bs with
  | nil => exact absurd rfl hne
  | cons w r =>
    have := fold_inter (r := r) (w := w) h [] []
    simpa [partW] using this
theorem bodyW_ok {b : List Str} (h : OkBody b) : barS ∉ bodyW b ∧ (bodyW b).length ≤ 4 ∧ bodyW b ≠ [] ∧ ∀ w ∈ bodyW b, w.length ≤ 7 ∧ 32 ∉ tl w ∧ 10 ∉ tl w := by
  by_cases hb : b = []
  · subst hb
    have e : bodyW [] = [tilS] := rfl
    rw [e]
    decide +kernel
  · rw [show bodyW b = b from if_neg hb]
    refine ⟨fun z => ?_, h.le, hb, fun w hw => ?_⟩
    · have := h.sy _ z
      rw [bar_no] at this
      cases this
    · have s := sym_ok (h.sy w hw)
      exact ⟨by have := (symB_len (h.sy w hw)).2; omega, s.2.1, s.2.2⟩
theorem inter_len : ∀ {bs : List (List Str)}, (∀ v ∈ bs, v.length ≤ 4) → (inter bs).length ≤ bs.length * 5
  | [], _ => Nat.zero_le _
  | [w], h => by have := h w (by simp); simp [inter]; omega
  | w :: v :: r, h => by
    have h1 := h w (by simp)
    have h2 := inter_len (bs := v :: r) fun u hu => h u (List.mem_cons_of_mem _ hu)
    simp only [inter, List.length_append, List.length_cons] at h2 ⊢
    omega
theorem inter_mem : ∀ {bs : List (List Str)} {w : Str}, w ∈ inter bs → w = barS ∨ ∃ v ∈ bs, w ∈ v
  | [], _, h => nomatch h
  | [v], w, h => .inr ⟨v, by simp, h⟩
  | v :: u :: r, w, h => by
    rw [inter, List.mem_append, List.mem_cons] at h
    rcases h with h | h | h
    · exact .inr ⟨v, by simp, h⟩
    · exact .inl h
    · rcases inter_mem h with h | ⟨x, hx, h⟩
      · exact .inl h
      · exact .inr ⟨x, List.mem_cons_of_mem _ hx, h⟩
/-! ### reading a row -/
theorem cut_drop (xs : List D) (k : Nat) : cutD xs (some (k : Int)) none = xs.drop k := by
  have h : ¬ ((k : Int) < 0) := by omega
  simp only [cutD, HT.sIx, if_neg h, Int.toNat_natCast]
  by_cases hk : k ≤ xs.length
  · rw [Nat.min_eq_left hk, List.take_of_length_le (by rw [List.length_drop]; omega)]
  · rw [Nat.min_eq_right (by omega), List.drop_of_length_le (Nat.le_refl _), List.drop_of_length_le (by omega)]
    simp
abbrev Grp := Str × List (List Str)
structure OkGrp (g : Grp) : Prop where
  hd : headB g.1 = true
  ne : g.2 ≠ []
  le : g.2.length ≤ 20
  ok : ∀ b ∈ g.2, OkBody b
def groupW (g : Grp) : List Str := g.1 :: colS :: inter (g.2.map bodyW)
def rankW (r : Str × List Str) : List Str := r.1 :: r.2
theorem headB_sym {s : Str} (h : headB s = true) : symB s = true := by simp [symB, h]
theorem signB_sym {s : Str} (h : signB s = true) : symB s = true := by simp [symB, h]
theorem groupW_ok {g : Grp} (h : OkGrp g) : Words (groupW g) ∧ ∀ w ∈ groupW g, 10 ∉ tl w := by
  have hc : colS.length ≤ 7 ∧ 32 ∉ tl colS ∧ 10 ∉ tl colS := by decide +kernel
  have hb : barS.length ≤ 7 ∧ 32 ∉ tl barS ∧ 10 ∉ tl barS := by decide +kernel
  have l := inter_len (bs := g.2.map bodyW) fun v hv => by
    obtain ⟨b, hb, rfl⟩ := List.mem_map.mp hv
    exact (bodyW_ok (h.ok b hb)).2.1
  have hle := h.le
  rw [List.length_map] at l
  have a : ∀ w ∈ groupW g, w.length ≤ 7 ∧ 32 ∉ tl w ∧ 10 ∉ tl w := by
    intro w hw
    rcases List.mem_cons.mp hw with rfl | hw
    · have s := sym_ok (headB_sym h.hd)
      exact ⟨by have := (headB_len h.hd).2; omega, s.2⟩
    · rcases List.mem_cons.mp hw with rfl | hw
      · exact hc
      · rcases inter_mem hw with rfl | ⟨v, hv, hw⟩
        · exact hb
        · obtain ⟨b, hb, rfl⟩ := List.mem_map.mp hv
          exact (bodyW_ok (h.ok b hb)).2.2.2 w hw
  exact ⟨⟨by simp [groupW], by simp [groupW]; omega, fun w hw => ⟨(a w hw).1, (a w hw).2.1⟩⟩, fun w hw => (a w hw).2.2⟩
theorem side_facts : ∀ s ∈ k_SIDES, s.length ≤ 7 ∧ 32 ∉ tl s ∧ 10 ∉ tl s ∧ headB s = false := by decide +kernel
theorem rankW_ok {r : Str × List Str} (h : OkRank r) : Words (rankW r) ∧ ∀ w ∈ rankW r, 10 ∉ tl w := by
  have hle := h.le
  have a : ∀ w ∈ rankW r, w.length ≤ 7 ∧ 32 ∉ tl w ∧ 10 ∉ tl w := by
    intro w hw
    rcases List.mem_cons.mp hw with rfl | hw
    · have s := side_facts _ h.si
      exact ⟨s.1, s.2.1, s.2.2.1⟩
    · have s := sym_ok (signB_sym (h.sg w hw))
      exact ⟨by have := (signB_len (h.sg w hw)).2; omega, s.2⟩
  exact ⟨⟨by simp [rankW], by simp [rankW]; omega, fun w hw => ⟨(a w hw).1, (a w hw).2.1⟩⟩, fun w hw => (a w hw).2.2⟩
theorem ni_sides (s : Str) : niD (.str s) (.kt (List.map D.str k_SIDES)) = some (.bl (!decide (s ∈ k_SIDES))) := by
  have e : ((k_SIDES.map D.str).any fun z => eqv z (.str s)) = decide (s ∈ k_SIDES) := by
    rw [Bool.eq_iff_iff, List.any_eq_true, decide_eq_true_eq]
    constructor
    · rintro ⟨z, hz, e⟩
      obtain ⟨q, hq, rfl⟩ := List.mem_map.mp hz
      rw [eqv_str] at e
      exact of_decide_eq_true e ▸ hq
    · intro hr
      exact ⟨.str s, List.mem_map.mpr ⟨s, hr, rfl⟩, by rw [eqv_str]; exact decide_eq_true rfl⟩
  have f : (k_SIDES.map D.str).all flatD = true := by simp [flatD]
  simp only [niD, inB, f, flatD, Bool.and_true, if_true, e, Option.bind_some]
theorem ix0 (d : D) (ds : List D) : ixD (.lst (d :: ds)) (.int 0) = some d := by simp [ixD, atD, atI, ixN]
theorem ix1 (d e : D) (ds : List D) : ixD (.lst (d :: e :: ds)) (.int 1) = some e := by
  have h : (1 : Int) < (ds.length : Int) + 1 + 1 := by omega
  simp [ixD, atD, atI, ixN, h]
theorem rank_in_eq {r : Str × List Str} (h : OkRank r) : F_rank_in [.str (rowT (rankW r))] = .ok (ruleD r) := by
  have hs := split_row (rankW_ok h).1
  simp only [rankW, List.map_cons] at hs
  have hn := ni_sides r.1
  rw [decide_eq_true h.si] at hn
  have e := lcL_map (sl := [some (.d (.str (rowT (rankW r)))), some (.d (.lst (.str r.1 :: r.2.map D.str))), none]) (vs := [2]) (tg := gN 2) (tt := tYes1) (te := sCall F_is_sign (sCons (sVar 2) sNil)) (mm := []) (xs := r.2.map D.str)
    (fun d => match d with | .str s => .bl (signB s) | _ => .non) (fun x hx => by
      obtain ⟨s, hs, rfl⟩ := List.mem_map.mp hx
      simp [lcStep, sign_eq s (len7 (signB_len (h.sg s hs)).2)]) []
  have hc : slD (.lst (.str r.1 :: r.2.map D.str)) (some 1) none = some (.lst (r.2.map D.str)) := by
    rw [slD, show (1 : Int) = ((1 : Nat) : Int) from rfl, cut_drop]; rfl
  have hle := h.le
  have hne := h.ne
  have hl : r.2.length ≤ 10000000 := by omega
  have hl2 : ¬ ((r.2.length : Int) + 1 < 2) := by omega
  have hz : (2 : Nat) ≤ sizeLine := by decide
  have ha := all_true h.sg
  simp only [rankW] at e ⊢
  simp [F_rank_in, defP, runP, B_rank_in, slotsP, hs, ix0, hn, hl2, hc, hl, e, Function.comp_def]
  rw [ha]
  simp [ix0, hc, tupD, hz, ruleD]
theorem rank_in_none {s : Str} {ws : List Str} (h : Words (s :: ws)) (hs : s ∉ k_SIDES) : F_rank_in [.str (rowT (s :: ws))] = .ok .non := by
  have hp := split_row h
  simp only [List.map_cons] at hp
  have hn := ni_sides s
  rw [decide_eq_false hs] at hn
  simp [F_rank_in, defP, runP, B_rank_in, slotsP, hp, ix0, hn]
theorem rules_in_none {s : Str} {ws : List Str} (h : Words (s :: ws)) (hl : s.length ≤ 7) (hs : headB s = false) : F_rules_in [.str (rowT (s :: ws))] = .ok .non := by
  have hp := split_row h
  simp only [List.map_cons] at hp
  have hh := head_eq s (len7 hl)
  rw [hs] at hh
  by_cases h3 : (ws.length : Int) + 1 < 3 <;> simp [F_rules_in, defP, runP, B_rules_in, slotsP, hp, ix0, hh, h3]
def tupS (b : List Str) : D := .tup (b.map D.str)
theorem ok_tups {bs : List (List Str)} (ok : ∀ b ∈ bs, ∀ s ∈ b, okS s = true) : okDs (bs.map tupS) = true ∧ depDs (bs.map tupS) ≤ 1 := by
  induction bs with
  | nil => exact ⟨rfl, Nat.zero_le _⟩
  | cons b bs ih =>
    obtain ⟨h1, h2⟩ := ih fun x hx => ok x (List.mem_cons_of_mem _ hx)
    obtain ⟨h3, h4⟩ := okDs_strs (ok b (List.mem_cons_self ..))
    constructor
    · simp [tupS, okDs, okD, h3] at h1 ⊢; exact h1
    · simp [tupS, depDs, depD, h4] at h2 ⊢; omega
theorem eqv_tup_non (ds : List D) : eqv (.tup ds) .non = false := by simp [eqv, toP, PyData.eqv]
theorem non_in {bs : List (List Str)} (ok : ∀ b ∈ bs, ∀ s ∈ b, okS s = true) : inD .non (.lst (bs.map tupS)) = some (.bl false) := by
  have a : ((bs.map tupS).any fun z => eqv z .non) = false := by
    rw [List.any_eq_false]
    intro z hz
    obtain ⟨b, _, rfl⟩ := List.mem_map.mp hz
    simp [tupS, eqv_tup_non]
  obtain ⟨h1, h2⟩ := ok_tups ok
  have e1 : eqOk (.lst (bs.map tupS)) = true := by simp [eqOk, okD, depD, h1]; omega
  have e2 : eqOk .non = true := by decide
  have b : inB .non (.lst (bs.map tupS)) = some false := by
    rw [inB]
    by_cases hf : (flatD .non && (bs.map tupS).all flatD) = true
    · rw [if_pos hf, a]
    · rw [if_neg hf, e1, e2, a]
      rfl
  rw [inD, b]
  rfl
def bodyF (d : D) : D := match F_body_in [d] with
  | .ok e => e
  | _ => .non
theorem rules_in_eq {g : Grp} (h : OkGrp g) : F_rules_in [.str (rowT (groupW g))] = .ok (.lst (g.2.map fun b => ruleD (g.1, b))) := by
  obtain ⟨hd, bs⟩ := g
  obtain ⟨h1, h2, h3, h4⟩ := h
  have hp := split_row (groupW_ok ⟨h1, h2, h3, h4⟩).1
  simp only [groupW, List.map_cons] at hp
  have hh := head_eq hd (len7 (headB_len h1).2)
  rw [show headB hd = true from h1] at hh
  obtain ⟨rest, hrest⟩ : ∃ r, r = inter (bs.map bodyW) := ⟨_, rfl⟩
  have nb : ∀ v ∈ bs.map bodyW, barS ∉ v := fun v hv => by
    obtain ⟨b, hb, rfl⟩ := List.mem_map.mp hv
    exact (bodyW_ok (h4 b hb)).1
  have hw : partW rest = bs.map bodyW := by rw [hrest]; exact partW_inter (by simpa using h2) nb
  have rl : rest.length ≤ 500 := by
    have := inter_len (bs := bs.map bodyW) fun v hv => by
      obtain ⟨b, hb, rfl⟩ := List.mem_map.mp hv
      exact (bodyW_ok (h4 b hb)).2.1
    rw [List.length_map] at this
    rw [hrest]
    have : bs.length ≤ 20 := h3
    omega
  have rn : 1 ≤ rest.length := by
    rcases Nat.eq_zero_or_pos rest.length with z | z
    · have e : rest = [] := List.eq_nil_of_length_eq_zero z
      rw [e] at hw
      have : bs.map bodyW = [[]] := hw.symm
      cases bs with
      | nil => exact absurd rfl h2
      | cons b bs =>
        have : bodyW b = [] := by injection this
        exact absurd this (bodyW_ok (h4 b (by simp))).2.2.1
    · exact z
  rw [← hrest] at hp
  have hpt := parted_eq rl
  rw [hw, List.map_map] at hpt
  have hc : slD (.lst (.str hd :: .str colS :: rest.map D.str)) (some 2) none = some (.lst (rest.map D.str)) := by
    rw [slD, show (2 : Int) = ((2 : Nat) : Int) from rfl, cut_drop]; rfl
  have e1 : ∀ sl : List (Option U), sl.length = 5 → lcL sl [3] (gN 3) tYes1 (sCall F_body_in (sCons (sVar 3) sNil)) (bs.map ((fun p => D.lst (p.map D.str)) ∘ bodyW)) ⟨sl, []⟩ [] = .ok (bs.map tupS) ⟨sl, []⟩ := by
    intro sl hl
    rw [lcL_map bodyF (fun x hx => by
      obtain ⟨b, hb, rfl⟩ := List.mem_map.mp hx
      have := body_in_eq (h4 b hb)
      simp [lcStep, bodyF, this, hl]) []]
    rw [List.nil_append, List.map_map]
    congr 1
    refine List.map_congr_left fun b hb => ?_
    have := body_in_eq (h4 b hb)
    simp [bodyF, this, tupS]
  have hz : (2 : Nat) ≤ sizeLine := by decide
  have e2 : ∀ a c : Option U, lcL [a, some (.d (.lst (.str hd :: .str colS :: rest.map D.str))), c, none, none] [4] (gN 4) tYes1 (sTup (sCons (sIx (sVar 1) (sC (.int 0))) (sCons (sVar 4) sNil))) (bs.map tupS) ⟨[a, some (.d (.lst (.str hd :: .str colS :: rest.map D.str))), c, none, none], []⟩ [] =
      .ok (bs.map fun b => ruleD (hd, b)) ⟨[a, some (.d (.lst (.str hd :: .str colS :: rest.map D.str))), c, none, none], []⟩ := by
    intro a c
    rw [lcL_map (fun d => .tup [.str hd, d]) (fun x hx => by
      simp [lcStep, ix0, hz]) []]
    rw [List.nil_append, List.map_map]
    rfl
  have hni := non_in (bs := bs) fun b hb s hs => (sym_ok ((h4 b hb).sy s hs)).1
  have l3 : ¬ ((rest.length : Int) + 1 + 1 < 3) := by omega
  have lb : bs.length ≤ 10000000 := by have : bs.length ≤ 20 := h3; omega
  simp only [groupW, ← hrest]
  simp [F_rules_in, defP, runP, B_rules_in, slotsP, hp, ix0, ix1, neD, l3, hh, hc, hpt, lb, e1, hni, e2]
/-! ### reading a text -/
abbrev nlS := Str.ofString "\n"
def rowsT (K : List (Str × List Str)) (G : List Grp) : List Str := K.map (fun r => rowT (rankW r)) ++ G.map fun g => rowT (groupW g)
def textT (K : List (Str × List Str)) (G : List Grp) : Str := Txt.join nlS (rowsT K G)
def grpR (g : Grp) : List (Str × List Str) := g.2.map fun b => (g.1, b)
def flatR (G : List Grp) : List (Str × List Str) := (G.map grpR).flatten
theorem row_facts {ws : List Str} (h : Words ws) (h10 : ∀ w ∈ ws, 10 ∉ tl w) : (rowT ws).length ≤ 3200 ∧ 10 ∉ tl (rowT ws) := by
  refine ⟨?_, fun z => ?_⟩
  · have := rowT_len fun w hw => (h.ok w hw).1
    have := h.le
    omega
  · rcases mem_tjoin z with z | ⟨w, hw, z⟩
    · revert z; decide +kernel
    · exact h10 w hw z
structure OkTxt (K : List (Str × List Str)) (G : List Grp) : Prop where
  k : OkRanks K
  g : ∀ g ∈ G, OkGrp g
  r : OkG (flatR G)
theorem grp_len {G : List Grp} (h : ∀ g ∈ G, OkGrp g) : G.length ≤ (flatR G).length := by
  induction G with
  | nil => simp
  | cons g G ih =>
    have h1 := ih fun x hx => h x (List.mem_cons_of_mem _ hx)
    have h2 := List.length_pos_iff.mpr (h g (List.mem_cons_self ..)).ne
    simp only [flatR, List.map_cons, List.flatten_cons, List.length_append, List.length_cons, grpR, List.length_map] at h1 ⊢
    omega
theorem split_text {K : List (Str × List Str)} {G : List Grp} (h : OkTxt K G) : splitD (.str (textT K G)) (.str nlS) = some (.lst ((rowsT K G).map D.str)) := by
  have f : ∀ w ∈ rowsT K G, w.length ≤ 3200 ∧ 10 ∉ tl w := by
    intro w hw
    rcases List.mem_append.mp hw with hw | hw
    · obtain ⟨r, hr, rfl⟩ := List.mem_map.mp hw
      have := rankW_ok (h.k.ok r hr)
      exact row_facts this.1 this.2
    · obtain ⟨g, hg, rfl⟩ := List.mem_map.mp hw
      have := groupW_ok (h.g g hg)
      exact row_facts this.1 this.2
  have gl := grp_len h.g
  have rl := h.r.rs.le
  have rn := h.r.rs.ne
  have kl := h.k.le
  have n : (rowsT K G).length ≤ 26 := by simp only [rowsT, List.length_append, List.length_map]; omega
  have ne : rowsT K G ≠ [] := by
    intro z
    have hG : G = [] := by
      have := List.append_eq_nil_iff.mp z
      simpa using this.2
    subst hG
    simp [flatR] at rn
  have hs : Txt.split (textT K G) nlS = rowsT K G := TL.split_join (s := 10) (S := []) (by decide +kernel) (by decide +kernel) ne fun p hp => (f p hp).2
  have l1 := len_tjoin nlS (rowsT K G)
  have l2 := sumLen_le fun p hp => (f p hp).1
  have l3 : nlS.length = 1 := by decide +kernel
  rw [l3] at l1
  rw [splitD, hs, if_pos ⟨by decide +kernel, Nat.le_trans (show (textT K G).length + 2 ≤ 90000 from by
    show (Txt.join nlS (rowsT K G)).length + 2 ≤ 90000
    omega) (by decide)⟩]
def rdEnc (p : List (Str × List Str) × List (Str × List Str)) : Sg := ⟨[none, some (.lc 0), some (.lc 1), none, none, none, none], [.p (.lst (p.1.map ruleD)), .p (.lst (p.2.map ruleD))]⟩
theorem ruleD_ne (R : List (Str × List Str)) (h : ∀ r ∈ R, strsOk r) : eqD (.lst (R.map ruleD)) (.lst []) = some (.bl (decide (R = []))) := by
  have e1 := (eqOk_rules h).1
  have e2 : eqOk (.lst []) = true := by decide
  rw [eqD]
  · rw [e1, e2]
    cases R <;> simp
  all_goals simp
theorem head_side {s : Str} (h : headB s = true) : s ∉ k_SIDES := fun z => by
  have := (side_facts s z).2.2.2
  rw [h] at this
  cases this
theorem read_eq {K : List (Str × List Str)} {G : List Grp} {r0 : Str × List Str} (h : OkTxt K G) (h0 : (flatR G)[0]? = some r0) : F_read_grammar [.str (textT K G)] = .ok (gramD (flatR G) K r0.1) := by
  have hs := split_text h
  have en : enum1 [.lst ((rowsT K G).map D.str)] = some ((K.zipIdx.map fun p => D.tup [.int p.2, .str (rowT (rankW p.1))]) ++ (G.zipIdx K.length).map fun p => D.tup [.int p.2, .str (rowT (groupW p.1))]) := by
    have e : enumL ((rowsT K G).map D.str) = _ := enum_zip D.str (rowsT K G)
    simp only [enum1, itemsL_lst, Option.map_some, e]
    simp only [rowsT, List.zipIdx_append, List.zipIdx_map, List.map_append, List.map_map, List.length_map, Nat.zero_add]
    rfl
  have z0 : (2 : Nat) ≤ sizeLine := by decide
  have kl := h.k.le
  have rl := h.r.rs.le
  obtain ⟨Γ2, a1, a2, a3⟩ := forL_mapA (fg := [0, 3, 4, 5, 6]) (tg := gT 2 (gsC (gN 3) (gsC (gN 4) gsN))) (body := L_read_grammar_1) (fun p : (Str × List Str) × Nat => D.tup [.int p.2, .str (rowT (rankW p.1))]) rdEnc (fun q p => (q.1, q.2 ++ [p.1]))
    (fun ys q => q.1 = [] ∧ q.2 = ys.map (·.1)) (as := K.zipIdx) (rest := (G.zipIdx K.length).map fun p => D.tup [.int p.2, .str (rowT (groupW p.1))]) (b := ([], []))
    (Γ := ⟨[some (.d (.str (textT K G))), some (.lc 0), some (.lc 1), none, none, none, none], [.p (.lst []), .p (.lst [])]⟩) (fun ys zs p q hx hI => by
      obtain ⟨q1, q2⟩ := q
      obtain ⟨rfl, rfl⟩ := hI
      have hm : p ∈ K.zipIdx := by rw [hx]; simp
      have hp : p.1 ∈ K := List.fst_mem_of_mem_zipIdx hm
      have hy : ys.length ≤ 6 := by
        have := congrArg List.length hx
        simp at this
        omega
      have i1 := rank_in_eq (h.k.ok p.1 hp)
      have sf := side_facts _ (h.k.ok p.1 hp).si
      have i2 := rules_in_none (rankW_ok (h.k.ok p.1 hp)).1 sf.1 sf.2.2.2
      have i3 : F_rules_in [.str (rowT (rankW p.1))] = .ok .non := i2
      have e0 := ruleD_ne [] (by simp)
      have hz : ys.length < sizeLine := by rw [sizeLine]; omega
      refine ⟨?_, rfl, by simp⟩
      simp at e0
      simp [fStep, L_read_grammar_1, rdEnc, i1, i3, ruleD, isNon, e0, hz]) rfl ⟨rfl, rfl⟩
  have b := forL_map (fg := [0, 3, 4, 5, 6]) (tg := gT 2 (gsC (gN 3) (gsC (gN 4) gsN))) (body := L_read_grammar_1) (fun p : Grp × Nat => D.tup [.int p.2, .str (rowT (groupW p.1))]) rdEnc (fun q p => (q.1 ++ grpR p.1, q.2))
    (fun ys q => q.2 = K ∧ q.1 = ((ys.map (·.1)).map grpR).flatten) (as := G.zipIdx K.length) (b := ([], K)) (Γ := Γ2) (fun ys zs p q hx hI => by
      obtain ⟨q1, q2⟩ := q
      obtain ⟨rfl, rfl⟩ := hI
      have hm : p ∈ G.zipIdx q2.length := by rw [hx]; simp
      have hp : p.1 ∈ G := List.fst_mem_of_mem_zipIdx hm
      have ok := h.g p.1 hp
      have hG : G = ys.map (·.1) ++ p.1 :: zs.map (·.1) := by
        have := congrArg (List.map Prod.fst) hx
        rw [List.zipIdx_map_fst] at this
        simpa using this
      have hl : (((ys.map (·.1)).map grpR).flatten).length + (grpR p.1).length ≤ 20 := by
        have : (flatR G).length = (((ys.map (·.1)).map grpR).flatten).length + ((grpR p.1).length + (((zs.map (·.1)).map grpR).flatten).length) := by
          rw [flatR]
          conv => lhs; rw [hG]
          simp only [List.map_append, List.map_cons, List.flatten_append, List.flatten_cons, List.length_append]
        omega
      have i1 : F_rank_in [.str (rowT (groupW p.1))] = .ok .non := rank_in_none (groupW_ok ok).1 (head_side ok.hd)
      have i2 := rules_in_eq ok
      have i2 : F_rules_in [.str (rowT (groupW p.1))] = .ok (.lst ((grpR p.1).map ruleD)) := by
        rw [i2, grpR, List.map_map]; rfl
      have hz : (((ys.map (·.1)).map grpR).flatten).length + (grpR p.1).length ≤ sizeLine := Nat.le_trans hl (by decide)
      obtain ⟨A, hA⟩ : ∃ A, A = ((ys.map (·.1)).map grpR).flatten := ⟨_, rfl⟩
      refine ⟨?_, rfl, by simp⟩
      rw [← hA] at hz ⊢
      simp [fStep, L_read_grammar_1, rdEnc, i1, i2, isNon, mExtend, hz]) (by
        rw [a1]
        have e : K.zipIdx.foldl (fun q p => (q.1, q.2 ++ [p.1])) (([], []) : List (Str × List Str) × List (Str × List Str)) = ([], K) := by
          refine Prod.ext a3.1 ?_
          rw [a3.2, List.zipIdx_map_fst]
        rw [e]) ⟨rfl, rfl⟩
  rw [b.1] at a2
  have e : (G.zipIdx K.length).foldl (fun q p => (q.1 ++ grpR p.1, q.2)) (([], K) : List (Str × List Str) × List (Str × List Str)) = (flatR G, K) := by
    refine Prod.ext ?_ b.2.1
    rw [b.2.2, List.zipIdx_map_fst]
    rfl
  rw [e] at a2
  have ini := init_eq h.r h0 h.k (mm := [.gone, .gone]) rfl (x := .lst (K.map ruleD)) (.inl rfl)
  simp at ini
  simp [F_read_grammar, defP, runP, B_read_grammar, slotsP, isiD, kdOf, kcOf, isa1, kitB, hs, en, z0]
  rw [a2]
  simp [rdEnc, fz, fzU, fzC, ini]
/-! ### showing -/
theorem len_app (a b : Str) : (a ++ b).length = a.length + b.length := by
  rw [TL.len_tl, TL.tl_append, List.length_append, ← TL.len_tl, ← TL.len_tl]
theorem addD_str {a b : Str} (h : a.length + b.length ≤ 100000) : addD (.str a) (.str b) = some (.str (a ++ b)) := by
  rw [addD, if_pos (Nat.le_trans h (by decide))]
theorem rowT_cons {a : Str} {ws : List Str} (h : ws ≠ []) : rowT (a :: ws) = a ++ spS ++ rowT ws := by
  apply TL.ext_tl
  cases ws with
  | nil => exact absurd rfl h
  | cons b r =>
    rw [TL.tl_append, TL.tl_append]
    show tl (Txt.join spS (a :: b :: r)) = tl a ++ tl spS ++ tl (Txt.join spS (b :: r))
    rw [tl_tjoin, tl_tjoin]
    simp [TL.joinL]
theorem app_assoc (a b c : Str) : a ++ b ++ c = a ++ (b ++ c) := by
  apply TL.ext_tl
  simp only [TL.tl_append, List.append_assoc]
theorem rowT_one (a : Str) : rowT [a] = a := by
  apply TL.ext_tl
  show tl (Txt.join spS [a]) = _
  rw [tl_tjoin]
  rfl
theorem rowT_app : ∀ {ws vs : List Str}, ws ≠ [] → vs ≠ [] → rowT (ws ++ vs) = rowT ws ++ spS ++ rowT vs
  | [], _, h, _ => absurd rfl h
  | [a], vs, _, h => by rw [rowT_one]; exact rowT_cons h
  | a :: b :: r, vs, _, h => by
    rw [List.cons_append, rowT_cons (by simp), rowT_app (ws := b :: r) (by simp) h, rowT_cons (ws := b :: r) (by simp)]
    simp only [app_assoc]
abbrev barT := Str.ofString " | "
abbrev colT := Str.ofString " : "
theorem barT_eq : barT = spS ++ barS ++ spS := by decide +kernel
theorem colT_eq : colT = spS ++ colS ++ spS := by decide +kernel
theorem inter_snoc : ∀ {l : List (List Str)} {w : List Str}, l ≠ [] → inter (l ++ [w]) = inter l ++ barS :: w
  | [], _, h => absurd rfl h
  | [v], w, _ => rfl
  | v :: u :: r, w, _ => by
    rw [List.cons_append, List.cons_append, inter]
    have := inter_snoc (l := u :: r) (w := w) (by simp)
    rw [List.cons_append] at this
    rw [this, inter]
    simp
theorem bodyW_ne (b : List Str) : bodyW b ≠ [] := by
  unfold bodyW
  split
  · simp
  · assumption
theorem row_new (h : Str) (b : List Str) : h ++ colT ++ rowT (bodyW b) = rowT (groupW (h, [b])) := by
  show _ = rowT (h :: colS :: bodyW b)
  rw [rowT_cons (by simp), rowT_cons (bodyW_ne b), colT_eq]
  simp only [app_assoc]
theorem row_more {g : Grp} (hg : g.2 ≠ []) (b : List Str) : rowT (groupW g) ++ barT ++ rowT (bodyW b) = rowT (groupW (g.1, g.2 ++ [b])) := by
  have e : groupW (g.1, g.2 ++ [b]) = groupW g ++ barS :: bodyW b := by
    simp only [groupW, List.map_append, List.map_cons, List.map_nil]
    rw [inter_snoc (by simpa using hg)]
    simp
  rw [e, rowT_app (by simp [groupW]) (by simp), rowT_cons (bodyW_ne b), barT_eq]
  simp only [app_assoc]
/-- a rule more -/
def gstep (f : Bool) (G : List Grp) (r : Str × List Str) : List Grp := match G.getLast? with
  | some g => if g.1 = r.1 ∧ f = true then G.dropLast ++ [(g.1, g.2 ++ [r.2])] else G ++ [(r.1, [r.2])]
  | none => [(r.1, [r.2])]
theorem flatR_app (G H : List Grp) : flatR (G ++ H) = flatR G ++ flatR H := by simp [flatR]
theorem flatR_one (g : Grp) : flatR [g] = grpR g := by simp [flatR]
theorem last_cases (G : List Grp) : G = [] ∨ ∃ Q g, G = Q ++ [g] := by
  rcases List.eq_nil_or_concat G with h | ⟨Q, g, h⟩
  · exact .inl h
  · exact .inr ⟨Q, g, by rw [h, List.concat_eq_append]⟩
theorem gstep_flat (f : Bool) (G : List Grp) (r : Str × List Str) : flatR (gstep f G r) = flatR G ++ [r] := by
  rcases last_cases G with rfl | ⟨Q, g, rfl⟩
  · simp [gstep, flatR, grpR]
  · simp only [gstep, List.getLast?_append, List.getLast?_singleton, Option.some_or, List.dropLast_concat]
    split
    · rename_i h
      rw [flatR_app, flatR_app, flatR_one, flatR_one, List.append_assoc]
      obtain ⟨a, b⟩ := r
      obtain ⟨h1, _⟩ := h
      have h1 : g.1 = a := h1
      simp [grpR, h1]
    · rw [flatR_app, flatR_one]
      rfl
theorem gstep_ok {f : Bool} {G : List Grp} {r : Str × List Str} (h : ∀ g ∈ G, OkGrp g) (hr : OkRule r) (hl : (flatR G).length < 20) : ∀ g ∈ gstep f G r, OkGrp g := by
  have nw : OkGrp (r.1, [r.2]) := ⟨hr.hd, by simp, by simp, fun b hb => by rw [List.mem_singleton.mp hb]; exact ⟨hr.le, hr.sy⟩⟩
  rcases last_cases G with rfl | ⟨Q, g, rfl⟩
  · intro x hx
    rw [List.mem_singleton.mp hx]
    exact nw
  · have hg := h g (by simp)
    simp only [gstep, List.getLast?_append, List.getLast?_singleton, Option.some_or, List.dropLast_concat]
    split
    · intro x hx
      rcases List.mem_append.mp hx with hx | hx
      · exact h x (by simp [hx])
      · rw [List.mem_singleton.mp hx]
        refine ⟨hg.hd, by simp, ?_, fun b hb => ?_⟩
        · rw [flatR_app, flatR_one, List.length_append] at hl
          simp only [grpR, List.length_map] at hl
          simp only [List.length_append, List.length_singleton]
          omega
        · rcases List.mem_append.mp hb with hb | hb
          · exact hg.ok b hb
          · rw [List.mem_singleton.mp hb]; exact ⟨hr.le, hr.sy⟩
    · intro x hx
      rcases List.mem_append.mp hx with hx | hx
      · exact h x hx
      · rw [List.mem_singleton.mp hx]; exact nw
theorem body_row {b : List Str} (h : OkBody b) : (rowT (bodyW b)).length ≤ 32 := by
  have := rowT_len fun w hw => ((bodyW_ok h).2.2.2 w hw).1
  have := (bodyW_ok h).2.1
  omega
theorem join_words {b : List Str} (h : OkBody b) : joinD (.str spS) (.tup (b.map D.str)) = some (.str (rowT b)) ∧ joinD (.str spS) (.lst (b.map D.str)) = some (.str (rowT b)) := by
  have l := sumLen_le fun p hp => (symB_len (h.sy p hp)).2
  have hb := h.le
  have hz : sumLen b + b.length * spS.length ≤ 16777216 := by rw [sp_len]; omega
  constructor <;> simp [joinD, itemsS, hz] <;> rfl
theorem lbody_eq {b : List Str} (h : OkBody b) : F__law_body [.tup (b.map D.str)] = .ok (.str (rowT (bodyW b))) := by
  have j := (join_words h).1
  by_cases hb : b = []
  · subst hb
    simp [F__law_body, defP, runP, B__law_body, slotsP, bodyW, rowT_one]
  · have hl : ¬ ((b.length : Int) = 0) := by
      have := List.length_pos_iff.mpr hb
      omega
    simp [F__law_body, defP, runP, B__law_body, slotsP, bodyW, hb, j, rowT_one]
theorem pbody_eq {b : List Str} (h : OkBody b) : F_body_text [.tup (b.map D.str)] = .ok (.str (rowT (bodyW b))) := by
  have j := (join_words h).1
  have hz : (0 : Nat) ≤ sizeLine := Nat.zero_le _
  obtain ⟨o1, o2⟩ := okDs_strs fun s hs => (sym_ok (h.sy s hs)).1
  have e : eqD (.tup (b.map D.str)) (.tup []) = some (.bl (decide (b = []))) := by
    have e1 : eqOk (.tup (b.map D.str)) = true := by simp [eqOk, okD, depD, o1, o2]
    have e2 : eqOk (.tup []) = true := by decide
    rw [eqD]
    · rw [e1, e2]
      cases b <;> simp
    all_goals simp
  by_cases hb : b = []
  · subst hb
    simp at e
    simp [F_body_text, defP, runP, B_body_text, slotsP, bodyW, e, rowT_one]
  · simp [hb] at e
    simp [F_body_text, defP, runP, B_body_text, slotsP, bodyW, hb, e, j]
/-! ### the two writings -/
theorem ixN_last {α : Type} (A : List α) (x : α) : ixN (A ++ [x]).length (-1) = some A.length := by
  have h1 : ¬ (0 : Int) ≤ -1 := by decide
  have h2 : -(((A ++ [x]).length : Nat) : Int) ≤ -1 := by simp; omega
  have h3 : (-1 + (((A ++ [x]).length : Nat) : Int)).toNat = A.length := by simp; omega
  rw [ixN, if_neg h1, if_pos h2, h3]
theorem ix_last (A : List D) (x : D) : ixD (.lst (A ++ [x])) (.int (-1)) = some x := by
  simp only [ixD, atD, atI, ixN_last, Option.bind_some]
  simp
theorem set_last (A : List D) (x y : D) : (A ++ [x]).set A.length y = A ++ [y] := by simp
theorem rowsT_snoc (K : List (Str × List Str)) (G : List Grp) (g : Grp) : rowsT K (G ++ [g]) = rowsT K G ++ [rowT (groupW g)] := by simp [rowsT]
theorem grow_len {g : Grp} (h : OkGrp g) : (rowT (groupW g)).length ≤ 3200 := (row_facts (groupW_ok h).1 (groupW_ok h).2).1
theorem krow_len {r : Str × List Str} (h : OkRank r) : (rowT (rankW r)).length ≤ 3200 := (row_facts (rankW_ok h).1 (rankW_ok h).2).1
def lastH (G : List Grp) : Str := match G.getLast? with
  | some g => g.1
  | none => Str.ofString ""
theorem text_join {K : List (Str × List Str)} {G : List Grp} (hk : OkRanks K) (hg : ∀ g ∈ G, OkGrp g) (hl : (flatR G).length ≤ 20) : joinD (.str nlS) (.lst ((rowsT K G).map D.str)) = some (.str (textT K G)) := by
  have kl := hk.le
  have gl := grp_len hg
  have n : (rowsT K G).length ≤ 26 := by simp only [rowsT, List.length_append, List.length_map]; omega
  have l2 := sumLen_le (ps := rowsT K G) (n := 3200) fun p hp => by
    rcases List.mem_append.mp hp with hp | hp
    · obtain ⟨r, hr, rfl⟩ := List.mem_map.mp hp
      exact krow_len (hk.ok r hr)
    · obtain ⟨g, hg', rfl⟩ := List.mem_map.mp hp
      exact grow_len (hg g hg')
  have l3 : nlS.length = 1 := by decide +kernel
  exact joinD_strs (by rw [l3]; omega)
theorem krow_eq {r : Str × List Str} (h : OkRank r) : r.1 ++ spS ++ rowT r.2 = rowT (rankW r) := by
  have : r.2 ≠ [] := fun e => by have := h.ne; rw [e] at this; simp at this
  exact (rowT_cons this).symm
theorem bar_len : barT.length = 3 ∧ colT.length = 3 := by decide +kernel
/-- the rules of a text, its groups -/
def grpsOf (ps : List Int) (R : List (Str × List Str)) : List Grp := R.zipIdx.foldl (fun G p => gstep (decide (0 < ps.getD p.2 0)) G p.1) []
theorem flat_fold {α : Type} (f : α → Bool) (q : α → Str × List Str) : ∀ (l : List α) (G : List Grp), flatR (l.foldl (fun G p => gstep (f p) G (q p)) G) = flatR G ++ l.map q
  | [], G => by simp
  | a :: l, G => by rw [List.foldl_cons, flat_fold f q l, gstep_flat]; simp
theorem grps_flat (ps : List Int) (R : List (Str × List Str)) : flatR (grpsOf ps R) = R := by
  have := flat_fold (fun p : (Str × List Str) × Nat => decide (0 < ps.getD p.2 0)) (·.1) R.zipIdx []
  rw [List.zipIdx_map_fst] at this
  exact this
theorem ltext_eq {R K : List (Str × List Str)} {ps : List Int} (hr : ∀ r ∈ R, OkRule r) (hn : R.length ≤ 20) (hp : 20 ≤ ps.length) (hk : OkRanks K) :
    F__law_text [.lst (R.map ruleD), .lst (K.map ruleD), .lst (ps.map D.int)] = .ok (.str (textT K (grpsOf ps R))) ∧ ∀ g ∈ grpsOf ps R, OkGrp g := by
  have kl := hk.le
  have L := forL_map (fg := [0, 1, 5, 6, 7, 8]) (tg := gT 2 (gsC (gN 5) (gsC (gN 6) gsN))) (body := L__law_text_1) (fun p : (Str × List Str) × Nat => D.tup [.int p.2, ruleD p.1])
    (fun G => ⟨[none, none, some (.d (.lst (ps.map D.int))), some (.lc 0), some (.d (.str (lastH G))), none, none, none, none], [.p (.lst ((rowsT K G).map D.str))]⟩) (fun G p => gstep (decide (0 < ps.getD p.2 0)) G p.1)
    (fun ys G => (∀ g ∈ G, OkGrp g) ∧ flatR G = ys.map (·.1)) (as := R.zipIdx) (b := [])
    (Γ := ⟨[some (.d (.lst (R.map ruleD))), some (.d (.lst (K.map ruleD))), some (.d (.lst (ps.map D.int))), some (.lc 0), some (.d (.str (Str.ofString ""))), none, none, none, none], [.p (.lst ((rowsT K []).map D.str))]⟩) (fun ys zs p G hx hI => by
      obtain ⟨r, i⟩ := p
      obtain ⟨o1, o2⟩ := hI
      have hm : (r, i) ∈ R.zipIdx := by rw [hx]; simp
      have hrr : r ∈ R := List.fst_mem_of_mem_zipIdx hm
      have hi : i < R.length := by
        have := List.snd_lt_of_mem_zipIdx hm
        simpa using this
      have ok := hr r hrr
      have ob : OkBody r.2 := ⟨ok.le, ok.sy⟩
      have hy : ys.length < 20 := by
        have := congrArg List.length hx
        simp at this
        omega
      have fl : (flatR G).length < 20 := by rw [o2, List.length_map]; exact hy
      have gl := grp_len o1
      have b1 := lbody_eq ob
      have bl := body_row ob
      obtain ⟨t0, t1⟩ := two_at (.str r.1) (.tup (r.2.map D.str))
      have t0 : ixD (ruleD r) (.int 0) = some (.str r.1) := t0
      have t1 : ixD (ruleD r) (.int 1) = some (.tup (r.2.map D.str)) := t1
      have hps : ixD (.lst (ps.map D.int)) (.int i) = some (.int (ps.getD i 0)) := by
        have h1 : i < ps.length := by omega
        simp [ixD, atD, atI, ixN, h1]
      have hz : (rowsT K G).length < sizeLine := by
        simp only [rowsT, List.length_append, List.length_map, sizeLine]; omega
      have hh := headB_len ok.hd
      have bz := bar_len
      have n1 : addD (.str r.1) (.str colT) = some (.str (r.1 ++ colT)) := addD_str (by omega)
      have n2 : addD (.str (r.1 ++ colT)) (.str (rowT (bodyW r.2))) = some (.str (rowT (groupW (r.1, [r.2])))) := by
        rw [addD_str (by rw [len_app]; omega), row_new]
      refine ⟨?_, gstep_ok o1 ok fl, by rw [gstep_flat, o2]; simp⟩
      obtain ⟨v, hv⟩ : ∃ v, v = ps.getD i 0 := ⟨_, rfl⟩
      dsimp only
      rw [← hv] at hps ⊢
      have lw : lastH (gstep (decide (0 < v)) G r) = r.1 := by
        rcases last_cases G with rfl | ⟨Q, g, rfl⟩
        · simp [gstep, lastH]
        · simp only [gstep, List.getLast?_append, List.getLast?_singleton, Option.some_or, List.dropLast_concat]
          split
          · rename_i h; simp [lastH, h.1]
          · simp [lastH]
      rw [lw]
      rcases last_cases G with rfl | ⟨Q, g, rfl⟩
      · have ne : ¬ r.1 = Str.ofString "" := fun e => by
          rw [e] at hh
          exact absurd hh.1 (by decide +kernel)
        have e1 : rowsT K (gstep (decide (0 < v)) [] r) = rowsT K [] ++ [rowT (groupW (r.1, [r.2]))] := rowsT_snoc K [] _
        rw [e1]
        simp [fStep, L__law_text_1, t0, t1, lastH, ne, b1, n1, n2, hz]
      · have lh : lastH (Q ++ [g]) = g.1 := by simp [lastH]
        have og := o1 g (by simp)
        have gl2 := grow_len og
        have m1 : addD (.str (rowT (groupW g))) (.str barT) = some (.str (rowT (groupW g) ++ barT)) := addD_str (by omega)
        have m2 : addD (.str (rowT (groupW g) ++ barT)) (.str (rowT (bodyW r.2))) = some (.str (rowT (groupW (g.1, g.2 ++ [r.2])))) := by
          rw [addD_str (by rw [len_app]; omega), row_more og.ne]
        rw [lh]
        by_cases hq : g.1 = r.1 ∧ 0 < v
        · have e1 : gstep (decide (0 < v)) (Q ++ [g]) r = Q ++ [(g.1, g.2 ++ [r.2])] := by
            simp [gstep, hq.1, hq.2]
          rw [e1, rowsT_snoc, rowsT_snoc]
          have q1 : r.1 = g.1 := hq.1.symm
          have il := ix_last ((rowsT K Q).map D.str) (.str (rowT (groupW g)))
          have xl := ixN_last ((rowsT K Q).map D.str) (D.str (rowT (groupW g)))
          have sl := set_last ((rowsT K Q).map D.str) (.str (rowT (groupW g))) (.str (rowT (groupW (g.1, g.2 ++ [r.2]))))
          have hq2 := hq.2
          rw [q1] at t0 ⊢
          simp only [List.map_append, List.map_cons, List.map_nil]
          obtain ⟨A, hA⟩ : ∃ A, A = (rowsT K Q).map D.str := ⟨_, rfl⟩
          rw [← hA] at il xl sl ⊢
          rw [List.length_append, List.length_singleton] at xl
          simp [fStep, L__law_text_1, t0, t1, hps, hq2, negD, il, xl, m1, b1, m2]
        · have e1 : gstep (decide (0 < v)) (Q ++ [g]) r = Q ++ [g] ++ [(r.1, [r.2])] := by
            simp only [gstep, List.getLast?_append, List.getLast?_singleton, Option.some_or, decide_eq_true_eq, if_neg hq]
          rw [e1, rowsT_snoc K (Q ++ [g])]
          obtain ⟨B, hB⟩ : ∃ B, B = rowsT K (Q ++ [g]) := ⟨_, rfl⟩
          rw [← hB] at hz ⊢
          by_cases q1 : r.1 = g.1
          · have q2 : ¬ 0 < v := fun z => hq ⟨q1.symm, z⟩
            simp [fStep, L__law_text_1, t0, t1, q1, hps, q2, b1, hz]
            rw [← q1, n1]
            simp [n2, hz, t0, t1, b1]
          · simp [fStep, L__law_text_1, t0, t1, q1, b1, n1, n2, hz]) rfl ⟨(fun _ z => nomatch z), rfl⟩
  have fR : flatR (grpsOf ps R) = R := grps_flat ps R
  have og : ∀ g ∈ grpsOf ps R, OkGrp g := L.2.1
  refine ⟨?_, og⟩
  have tj := text_join hk og (by rw [fR]; exact hn)
  have hnl : R.length ≤ 10000000 := by omega
  have hkl : K.length ≤ 10000000 := by omega
  have e := fun sl : List (Option U) => fun hl : sl.length = 9 => lcL_map (sl := sl) (vs := [7, 8]) (tg := gT 2 (gsC (gN 7) (gsC (gN 8) gsN))) (tt := tYes1) (te := sOp addD (sOp addD (sVar 7) (sC (.str spS))) (sM1 joinD (sC (.str spS)) (sVar 8))) (mm := []) (xs := K.map ruleD)
    (fun d => match d with | .tup [.str a, .tup b] => .str (a ++ spS ++ rowT ((strsO b).getD [])) | _ => .non) (fun x hx => by
      obtain ⟨r, hr, rfl⟩ := List.mem_map.mp hx
      have okr := hk.ok r hr
      have jl := rowT_len (ws := r.2) (fun w hw => by have := (signB_len (okr.sg w hw)).2; omega)
      have jw : joinD (.str spS) (.tup (r.2.map D.str)) = some (.str (rowT r.2)) := by
        have l := sumLen_le fun p hp => (signB_len (okr.sg p hp)).2
        have := okr.le
        have hz : sumLen r.2 + r.2.length * spS.length ≤ 16777216 := by rw [sp_len]; omega
        simp [joinD, itemsS, hz]
        rfl
      have sl7 := (side_facts _ okr.si).1
      have := okr.le
      have a1 : addD (.str r.1) (.str spS) = some (.str (r.1 ++ spS)) := addD_str (by rw [sp_len]; omega)
      have a2 : addD (.str (r.1 ++ spS)) (.str (rowT r.2)) = some (.str (r.1 ++ spS ++ rowT r.2)) := addD_str (by rw [len_app, sp_len]; omega)
      simp [lcStep, ruleD, hl, a1, a2, jw]) []
  have e3 : (K.map ruleD).map (fun d => match d with | .tup [.str a, .tup b] => D.str (a ++ spS ++ rowT ((strsO b).getD [])) | _ => .non) = (rowsT K []).map D.str := by
    rw [rowsT, List.map_nil, List.append_nil, List.map_map, List.map_map]
    refine List.map_congr_left fun r hr => ?_
    simp [ruleD, krow_eq (hk.ok r hr)]
  have en : enum1 [.lst (R.map ruleD)] = some (R.zipIdx.map fun p => D.tup [.int p.2, ruleD p.1]) := by
    simp only [enum1, itemsL_lst, Option.map_some, enum_zip ruleD R]
  have L1 := L.1
  simp [F__law_text, defP, runP, B__law_text, slotsP, hkl]
  rw [e _ rfl, e3]
  simp [en]
  rw [L1]
  unfold grpsOf at tj ⊢
  generalize List.foldl (fun (G : List Grp) (p : (Str × List Str) × Nat) => gstep (decide (0 < ps.getD p.2 0)) G p.1) [] R.zipIdx = G at tj ⊢
  simp [tj]
/-! ### show_grammar -/
def lastN (G : List Grp) : D := match G.getLast? with
  | some g => .str g.1
  | none => .non
theorem eqD_str_non {s : Str} (h : okS s = true) : eqD (.str s) .non = some (.bl false) := by
  have e1 : eqOk (.str s) = true := by simp [eqOk, okD, depD, h]
  have e2 : eqOk .non = true := by decide
  have e3 : eqv (.str s) .non = false := by simp [eqv, toP, PyData.eqv]
  rw [eqD]
  · rw [e1, e2, e3]
    rfl
  all_goals simp
def grps1 (R : List (Str × List Str)) : List Grp := R.foldl (fun G r => gstep true G r) []
theorem show_eq {R K : List (Str × List Str)} {s : Str} (hr : ∀ r ∈ R, OkRule r) (hn : R.length ≤ 20) (hk : OkRanks K) : F_show_grammar [gramD R K s] = .ok (.str (textT K (grps1 R))) := by
  have kl := hk.le
  have L := forL_map (fg := [0, 3, 4, 5, 6]) (tg := gT 2 (gsC (gN 3) (gsC (gN 4) gsN))) (body := L_show_grammar_1) ruleD
    (fun G => ⟨[none, some (.lc 0), some (.d (lastN G)), none, none, none, none], [.p (.lst ((rowsT K G).map D.str))]⟩) (fun G r => gstep true G r)
    (fun ys G => (∀ g ∈ G, OkGrp g) ∧ flatR G = ys) (as := R) (b := [])
    (Γ := ⟨[some (.d (gramD R K s)), some (.lc 0), some (.d .non), none, none, none, none], [.p (.lst ((rowsT K []).map D.str))]⟩) (fun ys zs r G hx hI => by
      obtain ⟨o1, o2⟩ := hI
      have hrr : r ∈ R := by rw [hx]; simp
      have ok := hr r hrr
      have ob : OkBody r.2 := ⟨ok.le, ok.sy⟩
      have hy : ys.length < 20 := by
        have := congrArg List.length hx
        simp at this
        omega
      have fl : (flatR G).length < 20 := by rw [o2]; exact hy
      have gl := grp_len o1
      have b1 := pbody_eq ob
      have bl := body_row ob
      have hz : (rowsT K G).length < sizeLine := by
        simp only [rowsT, List.length_append, List.length_map, sizeLine]; omega
      have hh := headB_len ok.hd
      have bz := bar_len
      have n1 : addD (.str r.1) (.str colT) = some (.str (r.1 ++ colT)) := addD_str (by omega)
      have n2 : addD (.str (r.1 ++ colT)) (.str (rowT (bodyW r.2))) = some (.str (rowT (groupW (r.1, [r.2])))) := by
        rw [addD_str (by rw [len_app]; omega), row_new]
      refine ⟨?_, gstep_ok o1 ok fl, by rw [gstep_flat, o2]⟩
      have lw : lastN (gstep true G r) = .str r.1 := by
        rcases last_cases G with rfl | ⟨Q, g, rfl⟩
        · simp [gstep, lastN]
        · simp only [gstep, List.getLast?_append, List.getLast?_singleton, Option.some_or, List.dropLast_concat]
          split
          · rename_i h; simp [lastN, h.1]
          · simp [lastN]
      rw [lw]
      rcases last_cases G with rfl | ⟨Q, g, rfl⟩
      · have ne := eqD_str_non (sym_ok (headB_sym ok.hd)).1
        have e1 : rowsT K (gstep true [] r) = rowsT K [] ++ [rowT (groupW (r.1, [r.2]))] := rowsT_snoc K [] _
        rw [e1]
        simp [fStep, L_show_grammar_1, ruleD, lastN, ne, b1, n1, n2, hz]
      · have lh : lastN (Q ++ [g]) = .str g.1 := by simp [lastN]
        have og := o1 g (by simp)
        have gl2 := grow_len og
        have m1 : addD (.str (rowT (groupW g))) (.str barT) = some (.str (rowT (groupW g) ++ barT)) := addD_str (by omega)
        have m2 : addD (.str (rowT (groupW g) ++ barT)) (.str (rowT (bodyW r.2))) = some (.str (rowT (groupW (g.1, g.2 ++ [r.2])))) := by
          rw [addD_str (by rw [len_app]; omega), row_more og.ne]
        rw [lh]
        by_cases hq : g.1 = r.1
        · have e1 : gstep true (Q ++ [g]) r = Q ++ [(g.1, g.2 ++ [r.2])] := by
            simp [gstep, hq]
          rw [e1, rowsT_snoc, rowsT_snoc]
          have q1 : r.1 = g.1 := hq.symm
          have il := ix_last ((rowsT K Q).map D.str) (.str (rowT (groupW g)))
          have xl := ixN_last ((rowsT K Q).map D.str) (D.str (rowT (groupW g)))
          have sl := set_last ((rowsT K Q).map D.str) (.str (rowT (groupW g))) (.str (rowT (groupW (g.1, g.2 ++ [r.2]))))
          simp only [List.map_append, List.map_cons, List.map_nil]
          obtain ⟨A, hA⟩ : ∃ A, A = (rowsT K Q).map D.str := ⟨_, rfl⟩
          rw [← hA] at il xl sl ⊢
          rw [List.length_append, List.length_singleton] at xl
          have rd : ruleD r = .tup [.str g.1, .tup (r.2.map D.str)] := by rw [← q1]; rfl
          rw [rd, q1]
          simp [fStep, L_show_grammar_1, negD, il, xl, m1, b1, m2]
        · have e1 : gstep true (Q ++ [g]) r = Q ++ [g] ++ [(r.1, [r.2])] := by
            simp [gstep, hq]
          rw [e1, rowsT_snoc K (Q ++ [g])]
          obtain ⟨B, hB⟩ : ∃ B, B = rowsT K (Q ++ [g]) := ⟨_, rfl⟩
          rw [← hB] at hz ⊢
          have q1 : ¬ r.1 = g.1 := fun z => hq z.symm
          simp [fStep, L_show_grammar_1, ruleD, q1, b1, n1, n2, hz]) rfl ⟨(fun _ z => nomatch z), rfl⟩
  have fR : flatR (grps1 R) = R := L.2.2
  have og : ∀ g ∈ grps1 R, OkGrp g := L.2.1
  have tj := text_join hk og (by rw [fR]; exact hn)
  have hkl : K.length ≤ 10000000 := by omega
  have hz1 : (1 : Nat) ≤ sizeLine := by decide
  have e := fun sl : List (Option U) => fun hl : sl.length = 7 => lcL_map (sl := sl) (vs := [5, 6]) (tg := gT 2 (gsC (gN 5) (gsC (gN 6) gsN))) (tt := tYes1) (te := sM1 joinD (sC (.str spS)) (sOp addD (sTup (sCons (sVar 5) sNil)) (sVar 6))) (mm := []) (xs := K.map ruleD)
    (fun d => match d with | .tup [.str a, .tup b] => .str (rowT (a :: (strsO b).getD [])) | _ => .non) (fun x hx => by
      obtain ⟨r, hr, rfl⟩ := List.mem_map.mp hx
      have okr := hk.ok r hr
      have le := okr.le
      have ad : addD (.tup [.str r.1]) (.tup (r.2.map D.str)) = some (.tup ((rankW r).map D.str)) := by
        have : 1 + r.2.length ≤ sizeLine := by rw [sizeLine]; omega
        simp [addD, this, rankW]
      have jw : joinD (.str spS) (.tup ((rankW r).map D.str)) = some (.str (rowT (rankW r))) := by
        have l := sumLen_le (ps := rankW r) (n := 7) fun p hp => ((rankW_ok okr).1.ok p hp).1
        have ll : (rankW r).length = r.2.length + 1 := rfl
        have hz : sumLen (rankW r) + (rankW r).length * spS.length ≤ 16777216 := by rw [sp_len]; omega
        simp only [joinD, itemsS, Option.bind_some, strsO_map, hz, if_true]
        rfl
      simp [lcStep, ruleD, hl, hz1, ad, jw]
      rfl) []
  have e3 : (K.map ruleD).map (fun d => match d with | .tup [.str a, .tup b] => D.str (rowT (a :: (strsO b).getD [])) | _ => .non) = (rowsT K []).map D.str := by
    rw [rowsT, List.map_nil, List.append_nil, List.map_map, List.map_map]
    refine List.map_congr_left fun r hr => ?_
    simp [ruleD, rankW]
  have L1 := L.1
  have f1 : fldD fldO fldX "ranks" (gramD R K s) = some (.tup (K.map ruleD)) := rfl
  have f2 : fldD fldO fldX "rules" (gramD R K s) = some (.tup (R.map ruleD)) := rfl
  simp [F_show_grammar, defP, runP, B_show_grammar, slotsP, hkl, f1, f2]
  rw [e _ rfl, e3]
  simp [f2]
  rw [L1]
  unfold grps1 at tj ⊢
  generalize List.foldl (fun (G : List Grp) (r : Str × List Str) => gstep true G r) [] R = G at tj ⊢
  simp [tj]
theorem stir_eq (c k : Int) (h0 : 0 ≤ k) (h1 : k < 2 ^ 210) : ∃ r : Int, F__law_stir [.int c, .int k] = .ok (.int r) ∧ 0 ≤ r := by
  obtain ⟨x, hx⟩ : ∃ x, x = c % 2147483647 := ⟨_, rfl⟩
  obtain ⟨n1, hn1⟩ : ∃ n, n = (x * 48271 + 69621 * k + 7) % 2147483647 := ⟨_, rfl⟩
  obtain ⟨n2, hn2⟩ : ∃ n, n = n1 * n1 % 2147483629 := ⟨_, rfl⟩
  have x0 : x.natAbs.log2 < 31 := log2_small (by omega) (by decide)
  have y1 : n1.natAbs.log2 < 31 := log2_small (by omega) (by decide)
  have y2 : n2.natAbs.log2 < 31 := log2_small (by omega) (by decide)
  have k1 : k.natAbs.log2 < 210 := log2_small (by omega) (by decide)
  have m1 : mulD (.int x) (.int 48271) = some (.int (x * 48271)) := mulD_int _ _ (by have : (48271 : Int).natAbs.log2 = 15 := (by decide); omega)
  have m2 : mulD (.int 69621) (.int k) = some (.int (69621 * k)) := mulD_int _ _ (by have : (69621 : Int).natAbs.log2 = 16 := (by decide); omega)
  have m3 : mulD (.int n1) (.int n1) = some (.int (n1 * n1)) := mulD_int _ _ (by omega)
  have m4 : mulD (.int n2) (.int n2) = some (.int (n2 * n2)) := mulD_int _ _ (by omega)
  have m5 : mulD (.int 16807) (.int n2) = some (.int (16807 * n2)) := mulD_int _ _ (by have : (16807 : Int).natAbs.log2 = 14 := (by decide); omega)
  refine ⟨(n2 * n2 + 16807 * n2 + 11) % 2147483587, ?_, Int.emod_nonneg _ (by decide)⟩
  simp only [F__law_stir, defP, runP, B__law_stir, slotsP, List.length_cons, List.length_nil, Nat.reduceAdd, if_true, List.map_cons, List.map_nil, Nat.reduceSub, List.replicate, List.cons_append, List.nil_append,
    sSeq_ev, sAsg_ev, sRet_ev, sOp_ev, sVar_ev, sC_ev, gN_ev, bind_ok, ofO_some, dr_d, Option.bind_some, List.getElem?_cons_zero, List.getElem?_cons_succ, addD_int, List.set_cons_zero, List.set_cons_succ, pu_d,
    modD_int _ _ (show (0 : Int) < 2147483647 by decide), modD_int _ _ (show (0 : Int) < 2147483629 by decide), modD_int _ _ (show (0 : Int) < 2147483587 by decide), ← hx, m1, m2, ← hn1, m3, ← hn2, m4, m5]
/-! ### cells, rows of draws -/
theorem cell_eq (ns : List Int) (k : Nat) : ∃ c : Int, F__law_cell [.fl (ns.map D.int), .int k] = .ok (.int c) := by
  by_cases h : k < ns.length
  · refine ⟨ns[k], ?_⟩
    have h1 : (k : Int) < (ns.length : Nat) := by omega
    simp [F__law_cell, defP, runP, B__law_cell, slotsP, lenD, h1, ixD, atD, atI, ixN, h]
  · refine ⟨0, ?_⟩
    have h1 : ¬ (k : Int) < (ns.length : Nat) := by omega
    simp [F__law_cell, defP, runP, B__law_cell, slotsP, lenD, h1]
structure Draws (rs : List Int) (n : Nat) (b : Int) : Prop where
  len : rs.length = n
  lo : ∀ r ∈ rs, 0 ≤ r ∧ r < b
theorem row_run {X Y Z : D} {b c m left : Int} {xs : List D} {rs : List Int} (hc : F__law_cell [X, Y] = .ok (.int c)) (hp : powD (.int 10) (.int 18) = some (.int m)) (hr : rng1 [Z] = some xs)
    (e1 : forL [0, 1, 3, 7] (gN 7) L__law_row_1 xs ⟨[some (.d X), some (.d Y), some (.d (.int b)), some (.d Z), some (.d (.int c)), some (.d (.int (c - m))), some (.lc 0), none], [.p (.lst [])]⟩ = .ok .nx ⟨[none, none, some (.d (.int b)), none, some (.d (.int c)), some (.d (.int left)), some (.lc 0), none], [.p (.lst (rs.map D.int))]⟩) :
    F__law_row [X, Y, .int b, Z] = .ok (.lst (rs.map D.int)) := by
  simp [F__law_row, defP, runP, B__law_row, slotsP, hc, hp, hr, e1]
theorem row_eq (ns : List Int) (at_ : Nat) (b : Int) (n : Nat) (h1 : 0 < b) (h2 : b < 2 ^ 60) (h3 : n ≤ 100) : ∃ rs, F__law_row [.fl (ns.map D.int), .int at_, .int b, .int n] = .ok (.lst (rs.map D.int)) ∧ Draws rs n b := by
  obtain ⟨c, hc⟩ := cell_eq ns at_
  have hz : (0 : Nat) ≤ sizeLine := Nat.zero_le _
  obtain ⟨Γ', e1, e2⟩ := forL_rel (fg := [0, 1, 3, 7]) (tg := gN 7) (body := L__law_row_1) (fun i : Nat => D.int (i : Int)) (fun ys Γ => ∃ (left : Int) (rs : List Int), Γ = ⟨[none, none, some (.d (.int b)), none, some (.d (.int c)), some (.d (.int left)), some (.lc 0), none], [.p (.lst (rs.map D.int))]⟩ ∧ Draws rs ys.length b) (as := List.range n)
    (Γ := ⟨[some (.d (.fl (ns.map D.int))), some (.d (.int at_)), some (.d (.int b)), some (.d (.int n)), some (.d (.int c)), some (.d (.int (c - 1000000000000000000))), some (.lc 0), none], [.p (.lst [])]⟩) (fun ys zs i Γ hx hI => by
      obtain ⟨left, rs, rfl, dr⟩ := hI
      have hi : i ∈ List.range n := by rw [hx]; simp
      have hi : i < n := List.mem_range.mp hi
      have hy : ys.length < n := by
        have := congrArg List.length hx
        simp at this
        omega
      have hl : rs.length < sizeLine := by rw [dr.len, sizeLine]; omega
      have add : ∀ x : Int, 0 ≤ x → x < b → Draws (rs ++ [x]) (ys ++ [i]).length b := fun x x0 x1 => ⟨by simp [dr.len], fun r hr => by
        rcases List.mem_append.mp hr with hr | hr
        · exact dr.lo r hr
        · rw [List.mem_singleton.mp hr]; exact ⟨x0, x1⟩⟩
      by_cases hb : (1000000000000000000 : Int) ≤ c
      · refine ⟨_, ?_, left / b, rs ++ [left % b], rfl, add _ (Int.emod_nonneg _ (by omega)) (Int.emod_lt_of_pos _ h1)⟩
        simp [fStep, L__law_row_1, powD_10, hb, modD_int _ _ h1, divD_int _ _ ⟨h1, Int.lt_trans h2 (by decide)⟩, hl]
      · obtain ⟨q, hq, hq0⟩ := stir_eq c i (by omega) (by omega)
        refine ⟨_, ?_, left, rs ++ [q / 8 % b], rfl, add _ (Int.emod_nonneg _ (by omega)) (Int.emod_lt_of_pos _ h1)⟩
        simp [fStep, L__law_row_1, powD_10, hb, modD_int _ _ h1, divD_int _ _ ⟨(show (0 : Int) < 8 by decide), (by decide)⟩, hl, hq])
    ⟨c - 1000000000000000000, [], by simp, ⟨rfl, fun _ z => nomatch z⟩⟩
  obtain ⟨left, rs, rfl, dr⟩ := e2
  rw [List.length_range] at dr
  refine ⟨rs, ?_, dr⟩
  have hr : rng1 [.int n] = some ((List.range n).map fun i : Nat => D.int (i : Int)) := by
    rw [rng1, if_pos (by omega), Int.toNat_natCast]
  obtain ⟨X, hX⟩ : ∃ X : D, X = .fl (ns.map D.int) := ⟨_, rfl⟩
  obtain ⟨Y, hY⟩ : ∃ X : D, X = .int at_ := ⟨_, rfl⟩
  obtain ⟨Z, hZ⟩ : ∃ X : D, X = .int n := ⟨_, rfl⟩
  obtain ⟨m, hm⟩ : ∃ m : Int, m = 1000000000000000000 := ⟨_, rfl⟩
  have hp : powD (.int 10) (.int 18) = some (.int m) := by rw [hm]; exact powD_10
  rw [← hX, ← hY, ← hZ, ← hm] at e1
  rw [← hZ] at hr
  rw [← hX, ← hY] at hc
  rw [← hX, ← hY, ← hZ]
  exact row_run hc hp hr e1

/-! ### right -/
theorem right_eq {R K : List (Str × List Str)} {r0 : Str × List Str} (h : OkG R) (h0 : R[0]? = some r0) (hk : OkRanks K) {x : D} (hx : x = .lst (K.map ruleD)) :
    F__law_right [gramD R K r0.1, .lst (R.map ruleD), x, .str (textT K (grps1 R))] = .ok (.bl true) := by
  subst hx
  have e1 : neD (.tup (R.map ruleD)) (.tup (R.map ruleD)) = some (.bl false) := by
    have o := (eqOk_rules fun r hr => (h.rs.ok r hr).ok).2
    have v : eqv (.tup (R.map ruleD)) (.tup (R.map ruleD)) = true := by rw [eqv_tup, eqvs_map ruleD eqv_rule]; simp
    have : eqD (.tup (R.map ruleD)) (.tup (R.map ruleD)) = some (.bl true) := by
      rw [eqD]
      · rw [o, v]; rfl
      all_goals simp
    rw [neD, this]
    rfl
  have e2 : neD (.tup (K.map ruleD)) (.tup (K.map ruleD)) = some (.bl false) := by
    have o := (eqOk_rules fun r hr => (hk.ok r hr).ok).2
    have v : eqv (.tup (K.map ruleD)) (.tup (K.map ruleD)) = true := by rw [eqv_tup, eqvs_map ruleD eqv_rule]; simp
    have : eqD (.tup (K.map ruleD)) (.tup (K.map ruleD)) = some (.bl true) := by
      rw [eqD]
      · rw [o, v]; rfl
      all_goals simp
    rw [neD, this]
    rfl
  have i0 : ixD (.lst (R.map ruleD)) (.int 0) = some (ruleD r0) := by
    obtain ⟨hp, e⟩ := List.getElem?_eq_some_iff.mp h0
    simp [ixD, atD, atI, ixN, hp, e]
  have i1 : ixD (ruleD r0) (.int 0) = some (.str r0.1) := (two_at _ _).1
  have s := show_eq (s := r0.1) h.rs.ok h.rs.le hk
  have f1 : fldD fldO fldX "ranks" (gramD R K r0.1) = some (.tup (K.map ruleD)) := rfl
  have f2 : fldD fldO fldX "rules" (gramD R K r0.1) = some (.tup (R.map ruleD)) := rfl
  have f3 : fldD fldO fldX "start" (gramD R K r0.1) = some (.str r0.1) := rfl
  have e3 : neD (.str r0.1) (.str r0.1) = some (.bl false) := by simp [neD]
  simp [F__law_right, defP, runP, B__law_right, slotsP, f1, f2, f3, tupD, e1, e2, e3, i0, i1, s, isiD, kdOf, kcOf, isa1, kitB]
/-! ### names that are drawn -/
def headsOk (r : Rr) : Bool := match r with
  | .ok (.lst ds) => (match strsO ds with
    | some hs => hs.length == 3 && (hs.all headB && decide hs.Nodup)
    | none => false)
  | _ => false
theorem heads_all : ((List.range 360).all fun c => headsOk (F__law_heads [.int (c : Int), .int 3])) = true := by decide +kernel
theorem lheads_eq {c : Int} (h0 : 0 ≤ c) (h1 : c < 360) : ∃ hs : List Str, F__law_heads [.int c, .int 3] = .ok (.lst (hs.map D.str)) ∧ hs.length = 3 ∧ (∀ s ∈ hs, headB s = true) ∧ hs.Nodup := by
  have h := List.all_eq_true.mp heads_all c.toNat (List.mem_range.mpr (by omega))
  rw [Int.toNat_of_nonneg h0] at h
  unfold headsOk at h
  cases e : F__law_heads [.int c, .int 3] with
  | st => rw [e] at h; cases h
  | ex x => rw [e] at h; cases h
  | ok d =>
    rw [e] at h
    cases d <;> first | (cases h; done) | skip
    rename_i ds
    dsimp only at h
    cases e2 : strsO ds with
    | none => rw [e2] at h; cases h
    | some hs =>
      rw [e2] at h
      simp only [Bool.and_eq_true, decide_eq_true_eq, beq_iff_eq, List.all_eq_true] at h
      exact ⟨hs, by rw [strsO_is e2], h.1, h.2.1, h.2.2⟩
def signsOk (n : Nat) (r : Rr) : Bool := match r with
  | .ok (.lst ds) => (match strsO ds with
    | some hs => hs.length == n && (hs.all signB && decide hs.Nodup)
    | none => false)
  | _ => false
theorem signs_all5 : ((List.range 360).all fun c => signsOk 5 (F__law_signs [.int (c : Int), .int 5])) = true := by decide +kernel
def sgD : List D := ["a", "b", "+", "*", "(", ")", "c", "id", "=", "<=", "if", "0", "[]", "else", ",", "abc123", "z", "!"].map fun x => D.str (Str.ofString x)
theorem signs_run {c : Int} {n : Nat} (hn : n ≤ 18) : F__law_signs [.int c, .int n] = .ok (.lst ((List.range n).map fun k : Nat => (atI sgD ((c + (k : Int)) % 18)).getD .non)) := by
  obtain ⟨X, hX⟩ : ∃ X, X = sgD := ⟨_, rfl⟩
  have hl : X.length = 18 := by rw [hX]; rfl
  have e := fun sl : List (Option U) => lcL_map (sl := [some (.d (.int c)), some (.d (.int n)), some (.d (.lst X)), none]) (vs := [3]) (tg := gN 3) (tt := tYes1) (te := sIx (sVar 2) (sOp modD (sOp addD (sVar 0) (sVar 3)) (sC (.int 18)))) (mm := []) (xs := (List.range n).map fun k : Nat => D.int (k : Int))
    (fun d => match d with | .int k => (atI X ((c + k) % 18)).getD .non | _ => .non) (fun x hx => by
      obtain ⟨k, _, rfl⟩ := List.mem_map.mp hx
      obtain ⟨d, h1, _⟩ := atI_mem (xs := X) (r := (c + (k : Int)) % 18) (Int.emod_nonneg _ (by decide)) (by rw [hl]; exact Int.emod_lt_of_pos _ (by decide))
      simp [lcStep, modD_int _ _ (show (0 : Int) < 18 by decide), ixD, atD, h1]) []
  have hr : rng1 [.int n] = some ((List.range n).map fun i : Nat => D.int (i : Int)) := by
    rw [rng1, if_pos (by omega), Int.toNat_natCast]
  have hz : (18 : Nat) ≤ sizeLine := by decide
  have hn2 : n ≤ 10000000 := by omega
  have e := e []
  obtain ⟨T, hT⟩ : ∃ T, T = (List.range n).map fun k : Nat => (atI X ((c + (k : Int)) % 18)).getD .non := ⟨_, rfl⟩
  rw [List.nil_append, List.map_map, show List.map ((fun d => match d with | D.int k => (atI X ((c + k) % 18)).getD .non | _ => .non) ∘ fun k : Nat => D.int (k : Int)) (List.range n) = T from hT.symm] at e
  rw [← hX, ← hT]
  simp only [sgD, List.map_cons, List.map_nil] at hX
  rw [hX] at e
  obtain ⟨N, hN⟩ : ∃ N : Int, N = (n : Int) := ⟨_, rfl⟩
  rw [← hN] at e hr ⊢
  simp [F__law_signs, defP, runP, B__law_signs, slotsP, hz, hr, hn2, e]
theorem signs_all18 : ((List.range 18).all fun c => signsOk 18 (F__law_signs [.int (c : Int), .int 18])) = true := by decide +kernel
theorem lsigns_eq {c : Int} : ∃ ss : List Str, F__law_signs [.int c, .int 18] = .ok (.lst (ss.map D.str)) ∧ ss.length = 18 ∧ (∀ s ∈ ss, signB s = true) ∧ ss.Nodup ∧ F__law_signs [.int c, .int 5] = .ok (.lst ((ss.take 5).map D.str)) := by
  have m : ∀ n : Nat, n ≤ 18 → F__law_signs [.int c, .int n] = F__law_signs [.int (c % 18), .int n] := fun n hn => by
    rw [signs_run hn, signs_run hn]
    simp only [Int.emod_add_emod]
  have h0 : 0 ≤ c % 18 := Int.emod_nonneg _ (by decide)
  have h1 : c % 18 < 18 := Int.emod_lt_of_pos _ (by decide)
  have h := List.all_eq_true.mp signs_all18 (c % 18).toNat (List.mem_range.mpr (by omega))
  rw [Int.toNat_of_nonneg h0] at h
  have m18 := m 18 (Nat.le_refl _)
  have r18 := signs_run (c := c) (n := 18) (Nat.le_refl _)
  have r5 := signs_run (c := c) (n := 5) (by decide)
  unfold signsOk at h
  cases e : F__law_signs [.int (c % 18), .int 18] with
  | st => rw [e] at h; cases h
  | ex x => rw [e] at h; cases h
  | ok d =>
    rw [e] at h
    cases d <;> first | (cases h; done) | skip
    rename_i ds
    dsimp only at h
    cases e2 : strsO ds with
    | none => rw [e2] at h; cases h
    | some hs =>
      rw [e2] at h
      simp only [Bool.and_eq_true, decide_eq_true_eq, beq_iff_eq, List.all_eq_true] at h
      have q : F__law_signs [.int c, .int 18] = .ok (.lst (hs.map D.str)) := by
        rw [← strsO_is e2, ← e]; exact m18
      refine ⟨hs, q, h.1, h.2.1, h.2.2, ?_⟩
      have z : (List.range 18).map (fun k : Nat => (atI sgD ((c + (k : Int)) % 18)).getD .non) = hs.map D.str := by
        have := r18.symm.trans q
        injection this with this
        injection this
      have r5 : F__law_signs [.int c, .int 5] = _ := r5
      rw [r5, List.map_take, ← z, ← List.map_take]
      rfl
/-! ### the ranks that are drawn -/
theorem cut_both (xs : List D) {a b : Nat} (h1 : a ≤ b) (h2 : b ≤ xs.length) : cutD xs (some (a : Int)) (some (b : Int)) = (xs.drop a).take (b - a) := by
  have ha : ¬ ((a : Int) < 0) := by omega
  have hb : ¬ ((b : Int) < 0) := by omega
  simp only [cutD, HT.sIx, if_neg ha, if_neg hb, Int.toNat_natCast, Nat.min_eq_left h2, Nat.min_eq_left (Nat.le_trans h1 h2)]
theorem draw_at {ds : List Int} {n : Nat} {b : Int} (h : Draws ds n b) {i : Nat} (hi : i < n) : ixD (.lst (ds.map D.int)) (.int i) = some (.int (ds.getD i 0)) ∧ 0 ≤ ds.getD i 0 ∧ ds.getD i 0 < b := by
  have hl : i < ds.length := by rw [h.len]; exact hi
  have e : ds.getD i 0 = ds[i] := by simp [hl]
  have m := h.lo ds[i] (List.getElem_mem hl)
  rw [e]
  refine ⟨?_, m⟩
  simp [ixD, atD, atI, ixN, hl]
def sliceK (pool : List Str) (ds : List Int) (k : Nat) : List Str := (pool.drop (3 * k)).take (1 + (ds.getD (2 + k) 0 / 3 % 3).toNat)
def sideK (ds : List Int) (k : Nat) : Str := k_SIDES.getD (ds.getD (2 + k) 0 % 3).toNat (Str.ofString "left")
def ranksK (pool : List Str) (ds : List Int) (m : Nat) : List (Str × List Str) := (List.range m).map fun k => (sideK ds k, sliceK pool ds k)
theorem slices_sub (pool : List Str) (ds : List Int) : ∀ m : Nat, (((List.range m).map (sliceK pool ds)).flatten).Sublist (pool.take (3 * m))
  | 0 => by simp
  | m + 1 => by
    rw [List.range_succ, List.map_append, List.flatten_append, show 3 * (m + 1) = 3 * m + 3 by omega, List.take_add]
    refine List.Sublist.append (slices_sub pool ds m) ?_
    simp only [List.map_cons, List.map_nil, List.flatten_cons, List.flatten_nil, List.append_nil, sliceK]
    refine (List.take_sublist_take_left ?_)
    have := Int.emod_lt_of_pos (ds.getD (2 + m) 0 / 3) (show (0 : Int) < 3 by decide)
    omega
theorem ranksK_ok {pool : List Str} {ds : List Int} {m : Nat} (hm : m ≤ 6) (h1 : pool.length = 18) (h2 : ∀ s ∈ pool, signB s = true) (h3 : pool.Nodup) : OkRanks (ranksK pool ds m) := by
  refine ⟨by simp [ranksK, hm], fun r hr => ?_, ?_⟩
  · obtain ⟨k, hk, rfl⟩ := List.mem_map.mp hr
    have hk := List.mem_range.mp hk
    have x0 := Int.emod_nonneg (ds.getD (2 + k) 0 / 3) (show (3 : Int) ≠ 0 by decide)
    have x1 := Int.emod_lt_of_pos (ds.getD (2 + k) 0 / 3) (show (0 : Int) < 3 by decide)
    have y0 := Int.emod_nonneg (ds.getD (2 + k) 0) (show (3 : Int) ≠ 0 by decide)
    have y1 := Int.emod_lt_of_pos (ds.getD (2 + k) 0) (show (0 : Int) < 3 by decide)
    refine ⟨?_, ?_, ?_, fun s hs => h2 s (List.mem_of_mem_drop (List.mem_of_mem_take hs))⟩
    · show k_SIDES.getD _ _ ∈ k_SIDES
      have : (ds.getD (2 + k) 0 % 3).toNat < k_SIDES.length := by show _ < 3; omega
      rw [List.getD_eq_getElem?_getD, List.getElem?_eq_getElem this]
      exact List.getElem_mem this
    · show 1 ≤ (sliceK pool ds k).length
      simp only [sliceK, List.length_take, List.length_drop, h1]
      omega
    · show (sliceK pool ds k).length ≤ 10
      simp only [sliceK, List.length_take, List.length_drop, h1]
      omega
  · have e : (ranksK pool ds m).map (·.2) = (List.range m).map (sliceK pool ds) := by simp [ranksK]
    rw [e]
    exact ((slices_sub pool ds m).trans (List.take_sublist _ _)).nodup h3
theorem ranks_eq (ns : List Int) (at_ : Nat) : ∃ K, F__law_ranks [.fl (ns.map D.int), .int at_] = .ok (.lst (K.map ruleD)) ∧ OkRanks K := by
  obtain ⟨ds, hd, dr⟩ := row_eq ns at_ 756 8 (by decide) (by decide) (by decide)
  obtain ⟨d0, _⟩ := draw_at dr (i := 0) (by decide)
  obtain ⟨d1, d1a, d1b⟩ := draw_at dr (i := 1) (by decide)
  obtain ⟨pool, hp, p1, p2, p3, _⟩ := lsigns_eq (c := ds.getD 0 0)
  obtain ⟨m, hm⟩ : ∃ m : Nat, m = (ds.getD 1 0 % 7).toNat := ⟨_, rfl⟩
  have m6 : m ≤ 6 := by
    have := Int.emod_lt_of_pos (ds.getD 1 0) (show (0 : Int) < 7 by decide)
    omega
  refine ⟨ranksK pool ds m, ?_, ranksK_ok m6 p1 p2 p3⟩
  obtain ⟨DS, hDS⟩ : ∃ x : D, x = .lst (ds.map D.int) := ⟨_, rfl⟩
  obtain ⟨PL, hPL⟩ : ∃ x : D, x = .lst (pool.map D.str) := ⟨_, rfl⟩
  have z3 : (3 : Nat) ≤ sizeLine := by decide
  have z2 : (2 : Nat) ≤ sizeLine := by decide
  have F := forL_map (fg := [0, 1, 5, 6]) (tg := gN 5) (body := L__law_ranks_1) (fun k : Nat => D.int (k : Int)) (fun K => ⟨[none, none, some (.d DS), some (.d PL), some (.lc 0), none, none], [.p (.lst (K.map ruleD))]⟩) (fun K k => K ++ [(sideK ds k, sliceK pool ds k)])
    (fun ys K => K = ys.map fun k => (sideK ds k, sliceK pool ds k)) (as := List.range m) (b := [])
    (Γ := ⟨[some (.d (.fl (ns.map D.int))), some (.d (.int at_)), some (.d DS), some (.d PL), some (.lc 0), none, none], [.p (.lst [])]⟩) (fun ys zs k K hx hK => by
      subst hK
      have hk : k ∈ List.range m := by rw [hx]; simp
      have hk := List.mem_range.mp hk
      have hy : ys.length < m := by
        have := congrArg List.length hx
        simp at this
        omega
      obtain ⟨g1, g2, g3⟩ := draw_at dr (i := 2 + k) (by omega)
      obtain ⟨v, hv⟩ : ∃ v, v = ds.getD (2 + k) 0 := ⟨_, rfl⟩
      rw [← hv] at g1 g2 g3
      have g1 : ixD DS (.int (2 + (k : Int))) = some (.int v) := by rw [hDS]; exact_mod_cast g1
      have x0 := Int.emod_nonneg (v / 3) (show (3 : Int) ≠ 0 by decide)
      have x1 := Int.emod_lt_of_pos (v / 3) (show (0 : Int) < 3 by decide)
      have y0 := Int.emod_nonneg v (show (3 : Int) ≠ 0 by decide)
      have y1 := Int.emod_lt_of_pos v (show (0 : Int) < 3 by decide)
      have sd : ixD (.lst [.str (Str.ofString "left"), .str (Str.ofString "right"), .str (Str.ofString "none")]) (.int (v % 3)) = some (.str (sideK ds k)) := by
        rw [sideK, ← hv]
        have : v % 3 = 0 ∨ v % 3 = 1 ∨ v % 3 = 2 := by omega
        rcases this with e | e | e <;> rw [e] <;> rfl
      have ml : mulD (.int 3) (.int k) = some (.int (3 * k)) := mulD_int _ _ (by
        have : (k : Int).natAbs.log2 < 10 := log2_small (by simp; omega) (by decide)
        have : (3 : Int).natAbs.log2 = 1 := by decide
        omega)
      have sl : slD PL (some (3 * (k : Int))) (some (3 * (k : Int) + 1 + v / 3 % 3)) = some (.lst ((sliceK pool ds k).map D.str)) := by
        have e1 : (3 * (k : Int)) = ((3 * k : Nat) : Int) := by omega
        have e2 : (3 * (k : Int) + 1 + v / 3 % 3) = ((3 * k + (1 + (v / 3 % 3).toNat) : Nat) : Int) := by omega
        rw [hPL, slD, e2, e1, cut_both _ (by omega) (by rw [List.length_map, p1]; omega), sliceK, ← hv, List.map_take, List.map_drop]
        congr 3
        omega
      have hz : ys.length < sizeLine := by rw [sizeLine]; omega
      refine ⟨?_, by simp⟩
      simp [fStep, L__law_ranks_1, z3, z2, g1, modD_int _ _ (show (0 : Int) < 3 by decide), divD_int _ _ ⟨(show (0 : Int) < 3 by decide), (by decide : (3 : Int) < 2 ^ 64)⟩, sd, ml, sl, tupD, hz, ruleD]) rfl rfl
  have F1 := F.1
  rw [F.2] at F1
  have hd : F__law_row [.fl (ns.map D.int), .int at_, .int 756, .int 8] = .ok DS := by rw [hDS]; exact hd
  have d0 : ixD DS (.int 0) = some (.int (ds.getD 0 0)) := by rw [hDS]; exact d0
  have d1 : ixD DS (.int 1) = some (.int (ds.getD 1 0)) := by rw [hDS]; exact d1
  have q1 : mulD (.int 18) (.int 7) = some (.int 126) := by rw [mulD_int _ _ (by decide)]; rfl
  have q2 : mulD (.int 126) (.int 6) = some (.int 756) := by rw [mulD_int _ _ (by decide)]; rfl
  obtain ⟨u, hu⟩ : ∃ u, u = ds.getD 0 0 := ⟨_, rfl⟩
  obtain ⟨v, hv⟩ : ∃ u, u = ds.getD 1 0 := ⟨_, rfl⟩
  rw [← hu] at d0 hp
  rw [← hv] at d1 hm
  have hp : F__law_signs [.int u, .int 18] = .ok PL := by rw [hPL]; exact hp
  have v0 := Int.emod_nonneg v (show (7 : Int) ≠ 0 by decide)
  have v1 := Int.emod_lt_of_pos v (show (0 : Int) < 7 by decide)
  have hr : rng1 [.int (v % 7)] = some ((List.range m).map fun k : Nat => D.int (k : Int)) := by
    rw [rng1, if_pos (by omega), hm]
  obtain ⟨A, hA⟩ : ∃ x : D, x = .fl (ns.map D.int) := ⟨_, rfl⟩
  obtain ⟨B, hB⟩ : ∃ x : D, x = .int at_ := ⟨_, rfl⟩
  obtain ⟨RL, hRL⟩ : ∃ x, x = (List.range m).map fun k : Nat => D.int (k : Int) := ⟨_, rfl⟩
  rw [← hA, ← hB] at hd F1 ⊢
  rw [← hRL] at hr F1
  have e : (List.range m).map (fun k => (sideK ds k, sliceK pool ds k)) = ranksK pool ds m := rfl
  rw [e] at F1
  obtain ⟨K, hK⟩ : ∃ K, K = ranksK pool ds m := ⟨_, rfl⟩
  rw [← hK] at F1 ⊢
  simp [F__law_ranks, defP, runP, B__law_ranks, slotsP, q1, q2, hd, d0, hp, d1, modD_int _ _ (show (0 : Int) < 7 by decide), hr, F1]
/-! ### rules by a shape -/
abbrev Shp := List (Int × List Int)
def shpD (sh : Shp) : List D := sh.map fun p => .tup [.int p.1, .tup (p.2.map D.int)]
theorem intsO_is : ∀ {ds : List D} {xs : List Int}, intsO ds = some xs → ds = xs.map D.int
  | [], xs, h => by cases h; rfl
  | d :: ds, xs, h => by
    cases d <;> first | cases h | skip
    rename_i b
    cases e : intsO ds with
    | none => rw [intsO, e] at h; cases h
    | some ys =>
      rw [intsO, e] at h
      cases h
      rw [intsO_is e]
      rfl
def decRule : D → Option (Int × List Int)
  | .tup [.int h, .tup b] => (intsO b).map fun l => (h, l)
  | _ => none
def decShp : List D → Option Shp
  | [] => some []
  | d :: ds => (decRule d).bind fun r => (decShp ds).map (r :: ·)
theorem decRule_is {d : D} {r : Int × List Int} (h : decRule d = some r) : d = .tup [.int r.1, .tup (r.2.map D.int)] := by
  unfold decRule at h
  split at h
  · rename_i a b
    cases e : intsO b with
    | none => rw [e] at h; cases h
    | some l =>
      rw [e] at h
      cases h
      rw [intsO_is e]
  · cases h
theorem decShp_is : ∀ {ds : List D} {sh : Shp}, decShp ds = some sh → ds = shpD sh
  | [], sh, h => by cases h; rfl
  | d :: ds, sh, h => by
    rw [decShp] at h
    obtain ⟨r, h1, h⟩ := Option.bind_eq_some_iff.mp h
    obtain ⟨t, h2, rfl⟩ := Option.map_eq_some_iff.mp h
    rw [decRule_is h1, decShp_is h2]
    rfl
def validI (i : Int) : Bool := (decide (0 ≤ i) && decide (i < 3)) || (decide (10 ≤ i) && decide (i < 15))
def validS (sh : Shp) : Bool := decide (1 ≤ sh.length) && (decide (sh.length ≤ 6) && (decide sh.Nodup && sh.all fun p => (decide (0 ≤ p.1) && decide (p.1 < 3)) && (decide (p.2.length ≤ 4) && p.2.all fun i => validI i && (decide (10 ≤ i) || decide (i ∈ sh.map (·.1))))))
def shapeOk (r : Rr) : Bool := match r with
  | .ok (.lst ds) => (match decShp ds with
    | some sh => validS sh
    | none => false)
  | _ => false
theorem shape_all : ((List.range 360).all fun n => shapeOk (F__law_shape [.int (n : Int)])) = true := by decide +kernel
theorem shape_eq {n : Int} (h0 : 0 ≤ n) (h1 : n < 360) : ∃ sh, F__law_shape [.int n] = .ok (.lst (shpD sh)) ∧ validS sh = true := by
  have h := List.all_eq_true.mp shape_all n.toNat (List.mem_range.mpr (by omega))
  rw [Int.toNat_of_nonneg h0] at h
  unfold shapeOk at h
  cases e : F__law_shape [.int n] with
  | st => rw [e] at h; cases h
  | ex x => rw [e] at h; cases h
  | ok d =>
    rw [e] at h
    cases d <;> first | (cases h; done) | skip
    rename_i ds
    dsimp only at h
    cases e2 : decShp ds with
    | none => rw [e2] at h; cases h
    | some sh =>
      rw [e2] at h
      exact ⟨sh, by rw [decShp_is e2], h⟩
theorem great_sign : ∀ c ∈ tl greatS, c ∉ tl signS := by decide +kernel
theorem sign_not_head {s : Str} (h : signB s = true) : headB s = false := by
  cases e : headB s with
  | false => rfl
  | true =>
    unfold headB at e
    cases ht : tl s with
    | nil => rw [ht] at e; cases e
    | cons c cs =>
      rw [ht] at e
      obtain ⟨_, e⟩ := Bool.and_eq_true_iff.mp e
      obtain ⟨e, _⟩ := Bool.and_eq_true_iff.mp e
      have h1 : c ∈ tl greatS := by simpa using e
      exact absurd (signB_mem h c (by rw [ht]; simp)) (great_sign c h1)
/-- the names of symbols -/
structure Names (hs ss : List Str) : Prop where
  hl : hs.length = 3
  hh : ∀ s ∈ hs, headB s = true
  hn : hs.Nodup
  sl : ss.length = 5
  sh : ∀ s ∈ ss, signB s = true
  sn : ss.Nodup
def sig (hs ss : List Str) (i : Int) : Str := if 10 ≤ i then ss.getD (i - 10).toNat (Str.ofString "") else hs.getD i.toNat (Str.ofString "")
theorem sig_sign {hs ss : List Str} (N : Names hs ss) {i : Int} (h1 : 10 ≤ i) (h2 : i < 15) : ∃ h : (i - 10).toNat < ss.length, sig hs ss i = ss[(i - 10).toNat] := by
  have h : (i - 10).toNat < ss.length := by rw [N.sl]; omega
  exact ⟨h, by simp [sig, h1, h]⟩
theorem sig_head {hs ss : List Str} (N : Names hs ss) {i : Int} (h1 : 0 ≤ i) (h2 : i < 3) : ∃ h : i.toNat < hs.length, sig hs ss i = hs[i.toNat] := by
  have h : i.toNat < hs.length := by rw [N.hl]; omega
  have h3 : ¬ 10 ≤ i := by omega
  exact ⟨h, by simp [sig, h3, h]⟩
theorem valid_cases {i : Int} (h : validI i = true) : (0 ≤ i ∧ i < 3) ∨ (10 ≤ i ∧ i < 15) := by
  simpa [validI] using h
theorem sig_inj {hs ss : List Str} (N : Names hs ss) {i j : Int} (hi : validI i = true) (hj : validI j = true) (e : sig hs ss i = sig hs ss j) : i = j := by
  rcases valid_cases hi with a | a <;> rcases valid_cases hj with b | b
  · obtain ⟨p, e1⟩ := sig_head N a.1 a.2
    obtain ⟨q, e2⟩ := sig_head N b.1 b.2
    rw [e1, e2] at e
    have := (List.getElem_inj N.hn).mp e
    omega
  · obtain ⟨p, e1⟩ := sig_head N a.1 a.2
    obtain ⟨q, e2⟩ := sig_sign N b.1 b.2
    rw [e1, e2] at e
    have h1 := N.hh _ (List.getElem_mem p)
    rw [e, sign_not_head (N.sh _ (List.getElem_mem q))] at h1
    cases h1
  · obtain ⟨p, e1⟩ := sig_sign N a.1 a.2
    obtain ⟨q, e2⟩ := sig_head N b.1 b.2
    rw [e1, e2] at e
    have h1 := N.hh _ (List.getElem_mem q)
    rw [← e, sign_not_head (N.sh _ (List.getElem_mem p))] at h1
    cases h1
  · obtain ⟨p, e1⟩ := sig_sign N a.1 a.2
    obtain ⟨q, e2⟩ := sig_sign N b.1 b.2
    rw [e1, e2] at e
    have := (List.getElem_inj N.sn).mp e
    omega
theorem sig_sym {hs ss : List Str} (N : Names hs ss) {i : Int} (hi : validI i = true) : symB (sig hs ss i) = true ∧ (headB (sig hs ss i) = true → i < 3) ∧ (signB (sig hs ss i) = true → sig hs ss i ∈ ss) := by
  rcases valid_cases hi with a | a
  · obtain ⟨p, e1⟩ := sig_head N a.1 a.2
    have h1 := N.hh _ (List.getElem_mem p)
    rw [e1]
    refine ⟨headB_sym h1, fun _ => a.2, fun z => ?_⟩
    rw [sign_not_head z] at h1
    cases h1
  · obtain ⟨p, e1⟩ := sig_sign N a.1 a.2
    have h1 := N.sh _ (List.getElem_mem p)
    rw [e1]
    refine ⟨signB_sym h1, fun z => ?_, fun _ => List.getElem_mem p⟩
    rw [sign_not_head h1] at z
    cases z
def shR (hs ss : List Str) (sh : Shp) : List (Str × List Str) := sh.map fun p => (sig hs ss p.1, p.2.map (sig hs ss))
/-- few rules, as drawn -/
structure OkB (R : List (Str × List Str)) : Prop where
  ne : 1 ≤ R.length
  le : R.length ≤ 6
  ok : ∀ r ∈ R, OkRule r
  nd : R.Nodup
  hs : ∀ r ∈ R, ∀ s ∈ r.2, headB s = true → s ∈ R.map (·.1)
  ns : ∃ S : List Str, S.length ≤ 5 ∧ ∀ r ∈ R, ∀ s ∈ r.2, signB s = true → s ∈ S
theorem OkB.g {R : List (Str × List Str)} (h : OkB R) : OkG R := by
  obtain ⟨S, h1, h2⟩ := h.ns
  refine ⟨⟨h.ne, by have := h.le; omega, h.ok, h.nd⟩, h.hs, ?_, S, by omega, h2⟩
  have := nodup_len (nodup_ded (R.map (·.1))) fun s hs => mem_ded.mp hs
  rw [List.length_map] at this
  have := h.le
  omega
theorem nodup_map_on {α β : Type} {f : α → β} : ∀ {l : List α}, l.Nodup → (∀ a ∈ l, ∀ b ∈ l, f a = f b → a = b) → (l.map f).Nodup
  | [], _, _ => List.nodup_nil
  | a :: l, h, hf => by
    obtain ⟨h1, h2⟩ := List.nodup_cons.mp h
    rw [List.map_cons]
    refine List.nodup_cons.mpr ⟨fun z => ?_, nodup_map_on h2 fun x hx y hy => hf x (List.mem_cons_of_mem _ hx) y (List.mem_cons_of_mem _ hy)⟩
    obtain ⟨b, hb, e⟩ := List.mem_map.mp z
    have := hf b (List.mem_cons_of_mem _ hb) a (List.mem_cons_self ..) e
    exact h1 (this ▸ hb)
theorem map_inj_on {α β : Type} {f : α → β} {P : α → Prop} (hf : ∀ a b, P a → P b → f a = f b → a = b) : ∀ {l m : List α}, (∀ a ∈ l, P a) → (∀ a ∈ m, P a) → l.map f = m.map f → l = m
  | [], [], _, _, _ => rfl
  | [], _ :: _, _, _, e => by cases e
  | _ :: _, [], _, _, e => by cases e
  | a :: l, b :: m, h1, h2, e => by
    rw [List.map_cons, List.map_cons] at e
    injection e with e1 e2
    rw [hf a b (h1 a (List.mem_cons_self ..)) (h2 b (List.mem_cons_self ..)) e1, map_inj_on hf (fun x hx => h1 x (List.mem_cons_of_mem _ hx)) (fun x hx => h2 x (List.mem_cons_of_mem _ hx)) e2]
structure VShp (sh : Shp) : Prop where
  ne : 1 ≤ sh.length
  le : sh.length ≤ 6
  nd : sh.Nodup
  ok : ∀ p ∈ sh, (0 ≤ p.1 ∧ p.1 < 3) ∧ p.2.length ≤ 4 ∧ ∀ i ∈ p.2, validI i = true ∧ (10 ≤ i ∨ i ∈ sh.map (·.1))
theorem vshp {sh : Shp} (h : validS sh = true) : VShp sh := by
  simp only [validS, Bool.and_eq_true, decide_eq_true_eq, List.all_eq_true, Bool.or_eq_true] at h
  exact ⟨h.1, h.2.1, h.2.2.1, fun p hp => ⟨(h.2.2.2 p hp).1, (h.2.2.2 p hp).2.1, fun i hi => (h.2.2.2 p hp).2.2 i hi⟩⟩
theorem valid3 {i : Int} (h : 0 ≤ i ∧ i < 3) : validI i = true := by simp [validI, h.1, h.2]
theorem shR_ok {hs ss : List Str} (N : Names hs ss) {sh : Shp} (h : VShp sh) : OkB (shR hs ss sh) := by
  refine ⟨by rw [shR, List.length_map]; exact h.ne, by rw [shR, List.length_map]; exact h.le, fun r hr => ?_, ?_, fun r hr s hs' hh => ?_, ss, by rw [N.sl]; exact Nat.le_refl _, fun r hr s hs' hg => ?_⟩
  · obtain ⟨p, hp, rfl⟩ := List.mem_map.mp hr
    obtain ⟨a, b, c⟩ := h.ok p hp
    obtain ⟨q, e⟩ := sig_head N a.1 a.2
    refine ⟨?_, by simpa using b, fun s hs' => ?_⟩
    · show headB (sig hs ss p.1) = true
      rw [e]
      exact N.hh _ (List.getElem_mem q)
    · obtain ⟨i, hi, rfl⟩ := List.mem_map.mp hs'
      exact (sig_sym N (c i hi).1).1
  · refine nodup_map_on h.nd fun p hp q hq e => ?_
    obtain ⟨a, _, c⟩ := h.ok p hp
    obtain ⟨a', _, c'⟩ := h.ok q hq
    injection e with e1 e2
    refine Prod.ext (sig_inj N (valid3 a) (valid3 a') e1) ?_
    exact map_inj_on (P := fun i => validI i = true) (fun x y hx hy e => sig_inj N hx hy e) (fun i hi => (c i hi).1) (fun i hi => (c' i hi).1) e2
  · obtain ⟨p, hp, rfl⟩ := List.mem_map.mp hr
    obtain ⟨i, hi, rfl⟩ := List.mem_map.mp hs'
    obtain ⟨v, w⟩ := (h.ok p hp).2.2 i hi
    have lt := (sig_sym N v).2.1 hh
    rcases w with w | w
    · omega
    · obtain ⟨q, hq, e⟩ := List.mem_map.mp w
      rw [shR, List.map_map]
      exact List.mem_map.mpr ⟨q, hq, by show sig hs ss q.1 = _; rw [e]⟩
  · obtain ⟨p, hp, rfl⟩ := List.mem_map.mp hr
    obtain ⟨i, hi, rfl⟩ := List.mem_map.mp hs'
    exact (sig_sym N ((h.ok p hp).2.2 i hi).1).2.2 hg
theorem symbol_run {hs ss : List Str} (N : Names hs ss) {i : Int} (hi : validI i = true) : F__law_symbol [.int i, .lst (hs.map D.str), .lst (ss.map D.str)] = .ok (.str (sig hs ss i)) := by
  rcases valid_cases hi with a | a
  · obtain ⟨p, e⟩ := sig_head N a.1 a.2
    have h3 : ¬ (10 : Int) ≤ i := by omega
    have ix : ixD (.lst (hs.map D.str)) (.int i) = some (.str (sig hs ss i)) := by
      have : i < ((hs.map D.str).length : Nat) := by rw [List.length_map, N.hl]; exact a.2
      simp only [ixD, atD, atI, ixN, if_pos a.1, if_pos this, Option.bind_some, e]
      simp [p]
    simp [F__law_symbol, defP, runP, B__law_symbol, slotsP, h3, ix]
  · obtain ⟨p, e⟩ := sig_sign N a.1 a.2
    have ix : ixD (.lst (ss.map D.str)) (.int (i - 10)) = some (.str (sig hs ss i)) := by
      have h1 : 0 ≤ i - 10 := by omega
      have : i - 10 < ((ss.map D.str).length : Nat) := by rw [List.length_map, N.sl]; omega
      simp only [ixD, atD, atI, ixN, if_pos h1, if_pos this, Option.bind_some, e]
      simp [p]
    simp [F__law_symbol, defP, runP, B__law_symbol, slotsP, a.1, ix]
theorem ixS {ss : List Str} {k : Nat} (h : k < ss.length) : ixD (.lst (ss.map D.str)) (.int k) = some (.str ss[k]) := by
  have : (k : Int) < ((ss.map D.str).length : Nat) := by rw [List.length_map]; omega
  have h0 : (0 : Int) ≤ k := by omega
  simp only [ixD, atD, atI, ixN, if_pos h0, if_pos this, Option.bind_some, Int.toNat_natCast]
  simp [h]
theorem shape_loop {hs ss : List Str} (N : Names hs ss) {sh : Shp} (h : VShp sh) {HS SS : D} (hH : HS = .lst (hs.map D.str)) (hS : SS = .lst (ss.map D.str)) {Γ : Sg}
    (e : Γ.fg [0, 1, 2, 6, 7, 8, 9, 10] = ⟨[none, none, none, some (.d HS), some (.d SS), some (.lc 0), none, none, none, none, none], [.p (.lst [])]⟩) :
    forL [0, 1, 2, 6, 7, 8, 9, 10] (gT 2 (gsC (gN 6) (gsC (gN 7) gsN))) L__law_rules_1 (shpD sh) Γ = .ok .nx ⟨[none, none, none, some (.d HS), some (.d SS), some (.lc 0), none, none, none, none, none], [.p (.lst ((shR hs ss sh).map ruleD))]⟩ := by
  have z2 : (2 : Nat) ≤ sizeLine := by decide
  have F := forL_map (fg := [0, 1, 2, 6, 7, 8, 9, 10]) (tg := gT 2 (gsC (gN 6) (gsC (gN 7) gsN))) (body := L__law_rules_1) (fun p : Int × List Int => D.tup [.int p.1, .tup (p.2.map D.int)]) (fun R => ⟨[none, none, none, some (.d HS), some (.d SS), some (.lc 0), none, none, none, none, none], [.p (.lst (R.map ruleD))]⟩)
    (fun R p => R ++ [(sig hs ss p.1, p.2.map (sig hs ss))]) (fun ys R => R = shR hs ss ys) (as := sh) (b := []) (Γ := Γ) (fun ys zs p R hx hR => by
      subst hR
      have hp : p ∈ sh := by rw [hx]; simp
      obtain ⟨a, b, c⟩ := h.ok p hp
      have hy : ys.length < 6 := by
        have := congrArg List.length hx
        have := h.le
        simp at *
        omega
      have hz : (shR hs ss ys).length < sizeLine := by rw [shR, List.length_map, sizeLine]; omega
      have hl : p.2.length ≤ 10000000 := by omega
      obtain ⟨q, eq⟩ := sig_head N a.1 a.2
      have ih : ixD HS (.int p.1) = some (.str (sig hs ss p.1)) := by
        rw [eq, hH]
        have := ixS q
        rwa [Int.toNat_of_nonneg a.1] at this
      have lc := fun (sl : List (Option U)) (mm : List Cell) (h3 : sl.length = 11) => lcL_map (sl := [none, none, none, some (.d HS), some (.d SS), some (.lc 0), some (.d (.int p.1)), some (.d (.tup (p.2.map D.int))), none, none, none]) (vs := [10]) (tg := gN 10) (tt := tYes1) (te := sCall F__law_symbol (sCons (sVar 10) (sCons (sVar 3) (sCons (sVar 4) sNil)))) (mm := mm) (xs := p.2.map D.int)
        (fun d => match d with | .int i => .str (sig hs ss i) | _ => .non) (fun x hx => by
          obtain ⟨i, hi, rfl⟩ := List.mem_map.mp hx
          have := symbol_run N (c i hi).1
          rw [← hH, ← hS] at this
          simp [lcStep, this]) []
      have lc := lc (List.replicate 11 none) [.p (.lst ((shR hs ss ys).map ruleD))] rfl
      rw [List.nil_append, List.map_map, show List.map ((fun d => match d with | D.int i => D.str (sig hs ss i) | _ => .non) ∘ D.int) p.2 = (p.2.map (sig hs ss)).map D.str by rw [List.map_map]; rfl] at lc
      refine ⟨?_, by simp [shR]⟩
      obtain ⟨T, hT⟩ : ∃ T, T = (p.2.map (sig hs ss)).map D.str := ⟨_, rfl⟩
      have rd : ruleD (sig hs ss p.1, p.2.map (sig hs ss)) = .tup [.str (sig hs ss p.1), .tup T] := by rw [hT]; rfl
      rw [← hT] at lc
      simp [fStep, L__law_rules_1, hl, lc, ih, tupD, z2, hz, rd]) (by rw [e]; rfl) rfl
  rw [F.2] at F
  exact F.1
/-! ### rules drawn freely -/
theorem range_at {n k : Nat} {ys zs : List Nat} (h : List.range n = ys ++ k :: zs) : k = ys.length ∧ k < n := by
  have h1 : (List.range n)[ys.length]? = some k := by rw [h]; simp
  have h2 : ys.length < n := by
    have := congrArg List.length h
    simp at this
    omega
  rw [List.getElem?_range h2] at h1
  have h1 : ys.length = k := by injection h1
  omega
structure DInv (H S : List Str) (n : Nat) (R : List (Str × List Str)) : Prop where
  le : R.length ≤ n
  ok : ∀ r ∈ R, OkRule r ∧ ∀ s ∈ r.2, s ∈ H ++ S
  nd : R.Nodup
  al : ∀ k, k < n → ∀ hk : k < H.length, H[k] ∈ R.map (·.1)
theorem drawn_step {ns : List Int} {at_ : Nat} {H S : List Str} (h1 : 1 ≤ H.length) (h2 : H.length ≤ 3) (h3 : S.length ≤ 3) (hH : ∀ s ∈ H, headB s = true) (hS : ∀ s ∈ S, signB s = true) {A AT HD SD : D} (eA : A = .fl (ns.map D.int)) (eT : AT = .int at_) (eH : HD = .lst (H.map D.str)) (eS : SD = .lst (S.map D.str))
    {k : Nat} (hk : k < 100) {R : List (Str × List Str)} (I : DInv H S k R) : ∃ R', fStep [4, 6, 7, 8, 9, 10, 11] (gN 6) L__law_drawn_rules_1 (.int k) ⟨[some (.d A), some (.d AT), some (.d HD), some (.d SD), none, some (.lc 0), none, none, none, none, none, none], [.p (.lst (R.map ruleD))]⟩ =
      some ⟨[some (.d A), some (.d AT), some (.d HD), some (.d SD), none, some (.lc 0), none, none, none, none, none, none], [.p (.lst (R'.map ruleD))]⟩ ∧ DInv H S (k + 1) R' := by
  obtain ⟨rs, hr, dr⟩ := row_eq ns (at_ + k) 24 5 (by decide) (by decide) (by decide)
  obtain ⟨DS, hDS⟩ : ∃ x : D, x = .lst (rs.map D.int) := ⟨_, rfl⟩
  have hr : F__law_row [A, .int ((at_ : Int) + (k : Int)), .int 24, .int 5] = .ok DS := by
    rw [hDS, eA]
    have : ((at_ : Int) + (k : Int)) = ((at_ + k : Nat) : Int) := by omega
    rw [this]
    exact hr
  have adt : addD AT (.int k) = some (.int ((at_ : Int) + (k : Int))) := by rw [eT]; rfl
  obtain ⟨d0, d0a, d0b⟩ := draw_at dr (i := 0) (by decide)
  obtain ⟨d1, d1a, d1b⟩ := draw_at dr (i := 1) (by decide)
  obtain ⟨u, hu⟩ : ∃ u, u = rs.getD 0 0 := ⟨_, rfl⟩
  obtain ⟨v, hv⟩ : ∃ u, u = rs.getD 1 0 := ⟨_, rfl⟩
  rw [← hu] at d0 d0a
  rw [← hv] at d1 d1a
  have d0 : ixD DS (.int 0) = some (.int u) := by rw [hDS]; exact d0
  have d1 : ixD DS (.int 1) = some (.int v) := by rw [hDS]; exact d1
  obtain ⟨lh, hlh⟩ : ∃ l : Int, l = (H.length : Int) := ⟨_, rfl⟩
  have lhp : 0 < lh := by omega
  have ln : lenD [HD] = some (.int lh) := by rw [eH, lenD_lst, List.length_map, hlh]
  have at1 : ∀ x : Int, 0 ≤ x → ∃ s ∈ H, ixD HD (.int (x % lh)) = some (.str s) ∧ s = H.getD (x % lh).toNat (Str.ofString "") := by
    intro x hx
    have m0 := Int.emod_nonneg x (show lh ≠ 0 by omega)
    have m1 := Int.emod_lt_of_pos x lhp
    have hl : (x % lh).toNat < H.length := by omega
    refine ⟨H[(x % lh).toNat], List.getElem_mem hl, ?_, by simp [hl]⟩
    have := ixS hl
    rw [Int.toNat_of_nonneg m0] at this
    rw [eH]
    exact this
  obtain ⟨s0, s0m, s0e, s0v⟩ := at1 k (by omega)
  obtain ⟨s1, s1m, s1e, _⟩ := at1 u d0a
  have sm : addD HD SD = some (.lst ((H ++ S).map D.str)) := by
    have : H.length + S.length ≤ sizeLine := by rw [sizeLine]; omega
    rw [eH, eS]
    simp [addD, this]
  obtain ⟨SM, hSM⟩ : ∃ x : D, x = .lst ((H ++ S).map D.str) := ⟨_, rfl⟩
  rw [← hSM] at sm
  obtain ⟨lm, hlm⟩ : ∃ l : Int, l = ((H ++ S).length : Int) := ⟨_, rfl⟩
  have lmp : 0 < lm := by rw [hlm, List.length_append]; omega
  have lnm : lenD [SM] = some (.int lm) := by rw [hSM, lenD_lst, List.length_map, hlm]
  have v0 := Int.emod_nonneg v (show (4 : Int) ≠ 0 by decide)
  have v1 := Int.emod_lt_of_pos v (show (0 : Int) < 4 by decide)
  obtain ⟨q, hq⟩ : ∃ q, q = (v % 4).toNat := ⟨_, rfl⟩
  have sl : slD DS (some 2) (some (2 + v % 4)) = some (.lst (((rs.drop 2).take q).map D.int)) := by
    have e2 : (2 + v % 4) = ((2 + q : Nat) : Int) := by omega
    rw [hDS, slD, e2, show (2 : Int) = ((2 : Nat) : Int) from rfl, cut_both _ (by omega) (by rw [List.length_map, dr.len]; omega), List.map_take, List.map_drop]
    congr 3
    omega
  obtain ⟨B, hB⟩ : ∃ B : List Str, B = ((rs.drop 2).take q).map fun x => (H ++ S).getD (x % lm).toNat (Str.ofString "") := ⟨_, rfl⟩
  have at2 : ∀ x : Int, 0 ≤ x → ixD SM (.int (x % lm)) = some (.str ((H ++ S).getD (x % lm).toNat (Str.ofString ""))) ∧ (H ++ S).getD (x % lm).toNat (Str.ofString "") ∈ H ++ S := by
    intro x hx
    have m0 := Int.emod_nonneg x (show lm ≠ 0 by omega)
    have m1 := Int.emod_lt_of_pos x lmp
    have hl : (x % lm).toNat < (H ++ S).length := by omega
    have e : (H ++ S).getD (x % lm).toNat (Str.ofString "") = (H ++ S)[(x % lm).toNat] := by
      rw [List.getD_eq_getElem?_getD, List.getElem?_eq_getElem hl]; rfl
    rw [e]
    refine ⟨?_, List.getElem_mem hl⟩
    have := ixS hl
    rw [Int.toNat_of_nonneg m0] at this
    rw [hSM]
    exact this
  have bm : ∀ s ∈ B, s ∈ H ++ S := by
    intro s hs
    rw [hB] at hs
    obtain ⟨x, hx, rfl⟩ := List.mem_map.mp hs
    exact (at2 x (dr.lo x (List.mem_of_mem_drop (List.mem_of_mem_take hx))).1).2
  have bl : B.length ≤ 4 := by rw [hB, List.length_map, List.length_take]; omega
  have sy : ∀ s ∈ H ++ S, symB s = true := by
    intro s hs
    rcases List.mem_append.mp hs with hs | hs
    · exact headB_sym (hH s hs)
    · exact signB_sym (hS s hs)
  have hlq : ((rs.drop 2).take q).length ≤ 10000000 := by rw [List.length_take]; omega
  have z2 : (2 : Nat) ≤ sizeLine := by decide
  have lc := fun (h : Str) (mm : List Cell) => lcL_map (sl := [some (.d A), some (.d AT), some (.d HD), some (.d SD), none, some (.lc 0), some (.d (.int k)), some (.d DS), some (.d (.str h)), some (.d SM), none, none]) (vs := [11]) (tg := gN 11) (tt := tYes1) (te := sIx (sVar 9) (sOp modD (sVar 11) (sCb lenD (sCons (sVar 9) sNil)))) (mm := mm) (xs := ((rs.drop 2).take q).map D.int)
    (fun d => match d with | .int x => .str ((H ++ S).getD (x % lm).toNat (Str.ofString "")) | _ => .non) (fun x hx => by
      obtain ⟨y, hy, rfl⟩ := List.mem_map.mp hx
      have := (at2 y (dr.lo y (List.mem_of_mem_drop (List.mem_of_mem_take hy))).1).1
      obtain ⟨Y, hY⟩ : ∃ Y, Y = (H ++ S).getD (y % lm).toNat (Str.ofString "") := ⟨_, rfl⟩
      rw [← hY] at this
      dsimp only
      rw [← hY]
      simp [lcStep, lnm, modD_int _ _ lmp, this]) []
  have mb : (((rs.drop 2).take q).map D.int).map (fun d => match d with | .int x => D.str ((H ++ S).getD (x % lm).toNat (Str.ofString "")) | _ => .non) = B.map D.str := by
    rw [hB, List.map_map, List.map_map]; rfl
  simp only [List.nil_append, mb] at lc
  obtain ⟨XS, hXS⟩ : ∃ XS, XS = ((rs.drop 2).take q).map D.int := ⟨_, rfl⟩
  have hlx : XS.length ≤ 10000000 := by rw [hXS, List.length_map]; exact hlq
  rw [← hXS] at lc sl
  have okR : ∀ r ∈ R, strsOk r := fun r hr => (I.ok r hr).1.ok
  have hz : R.length < sizeLine := Nat.lt_of_le_of_lt I.le (Nat.lt_of_lt_of_le hk (by decide))
  have main : ∀ h : Str, h ∈ H → (if lh ≤ (k : Int) then s1 else s0) = h → ∃ R', fStep [4, 6, 7, 8, 9, 10, 11] (gN 6) L__law_drawn_rules_1 (.int k) ⟨[some (.d A), some (.d AT), some (.d HD), some (.d SD), none, some (.lc 0), none, none, none, none, none, none], [.p (.lst (R.map ruleD))]⟩ =
      some ⟨[some (.d A), some (.d AT), some (.d HD), some (.d SD), none, some (.lc 0), none, none, none, none, none, none], [.p (.lst (R'.map ruleD))]⟩ ∧ R' = (if (h, B) ∈ R then R else R ++ [(h, B)]) := by
    intro h hm he
    have okn : OkRule (h, B) := ⟨hH h hm, bl, fun s hs => sy s (bm s hs)⟩
    have ni := (in_rules okn.ok okR).2
    obtain ⟨RD, hRD⟩ : ∃ x, x = R.map ruleD := ⟨_, rfl⟩
    have lR : RD.length = R.length := by rw [hRD, List.length_map]
    have rd : ruleD (h, B) = .tup [.str h, .tup (B.map D.str)] := rfl
    obtain ⟨BD, hBD⟩ : ∃ x, x = B.map D.str := ⟨_, rfl⟩
    refine ⟨_, ?_, rfl⟩
    have ap : (R ++ [(h, B)]).map ruleD = RD ++ [.tup [.str h, .tup BD]] := by rw [List.map_append, hRD, hBD]; rfl
    rw [rd, ← hRD, ← hBD] at ni
    rw [← hBD] at lc
    have hz' : RD.length < sizeLine := by rw [lR]; exact hz
    by_cases hin : (h, B) ∈ R
    · rw [decide_eq_true hin] at ni
      rw [if_pos hin, ← hRD]
      by_cases hge : lh ≤ (k : Int)
      · rw [if_pos hge] at he
        subst he
        simp [fStep, L__law_drawn_rules_1, adt, hr, ln, modD_int _ _ lhp, s0e, hge, d0, s1e, sm, d1, modD_int _ _ (show (0 : Int) < 4 by decide), sl, hlx, lc, tupD, z2, ni]
      · rw [if_neg hge] at he
        subst he
        simp [fStep, L__law_drawn_rules_1, adt, hr, ln, modD_int _ _ lhp, s0e, hge, d0, s1e, sm, d1, modD_int _ _ (show (0 : Int) < 4 by decide), sl, hlx, lc, tupD, z2, ni]
    · rw [decide_eq_false hin] at ni
      rw [if_neg hin, ap, ← hRD]
      by_cases hge : lh ≤ (k : Int)
      · rw [if_pos hge] at he
        subst he
        simp [fStep, L__law_drawn_rules_1, adt, hr, ln, modD_int _ _ lhp, s0e, hge, d0, s1e, sm, d1, modD_int _ _ (show (0 : Int) < 4 by decide), sl, hlx, lc, tupD, z2, ni, hz']
      · rw [if_neg hge] at he
        subst he
        simp [fStep, L__law_drawn_rules_1, adt, hr, ln, modD_int _ _ lhp, s0e, hge, d0, s1e, sm, d1, modD_int _ _ (show (0 : Int) < 4 by decide), sl, hlx, lc, tupD, z2, ni, hz']
  obtain ⟨h, he⟩ : ∃ h, (if lh ≤ (k : Int) then s1 else s0) = h := ⟨_, rfl⟩
  have hm : h ∈ H := by
    rw [← he]
    split
    · exact s1m
    · exact s0m
  obtain ⟨R', e1, e2⟩ := main h hm he
  refine ⟨R', e1, ?_⟩
  have okn : OkRule (h, B) ∧ ∀ s ∈ (h, B).2, s ∈ H ++ S := ⟨⟨hH h hm, bl, fun s hs => sy s (bm s hs)⟩, bm⟩
  have sub : ∀ r ∈ R, r ∈ R' := fun r hr => by
    rw [e2]
    split
    · exact hr
    · exact List.mem_append_left _ hr
  have isin : (h, B) ∈ R' := by
    rw [e2]
    split
    · assumption
    · simp
  refine ⟨?_, fun r hr => ?_, ?_, fun k' hk' hkl => ?_⟩
  · rw [e2]
    have := I.le
    split
    · omega
    · rw [List.length_append, List.length_singleton]; omega
  · rw [e2] at hr
    split at hr
    · exact I.ok r hr
    · rcases List.mem_append.mp hr with hr | hr
      · exact I.ok r hr
      · rw [List.mem_singleton.mp hr]; exact okn
  · rw [e2]
    split
    · exact I.nd
    · rename_i hin
      refine List.nodup_append.mpr ⟨I.nd, by simp, fun a ha b hb e => ?_⟩
      rw [List.mem_singleton.mp hb] at e
      exact hin (e ▸ ha)
  · by_cases hlt : k' < k
    · obtain ⟨r, hr, e⟩ := List.mem_map.mp (I.al k' hlt hkl)
      exact List.mem_map.mpr ⟨r, sub r hr, e⟩
    · have ek : k' = k := by omega
      subst ek
      have hge : ¬ lh ≤ (k' : Int) := by omega
      rw [if_neg hge] at he
      have em : (k' : Int) % lh = k' := Int.emod_eq_of_lt (by omega) (by omega)
      rw [em, Int.toNat_natCast] at s0v
      have : s0 = H[k'] := by rw [s0v]; simp [hkl]
      exact List.mem_map.mpr ⟨(h, B), isin, by rw [← this]; exact he.symm⟩
theorem drawn_eq {ns : List Int} {at_ : Nat} {H S : List Str} (h1 : 1 ≤ H.length) (h2 : H.length ≤ 3) (h3 : S.length ≤ 3) (hH : ∀ s ∈ H, headB s = true) (hS : ∀ s ∈ S, signB s = true) {more : Int} (m0 : 0 ≤ more) (m1 : more ≤ 3) :
    ∃ R, F__law_drawn_rules [.fl (ns.map D.int), .int at_, .lst (H.map D.str), .lst (S.map D.str), .int more] = .ok (.lst (R.map ruleD)) ∧ OkB R := by
  obtain ⟨A, eA⟩ : ∃ x : D, x = .fl (ns.map D.int) := ⟨_, rfl⟩
  obtain ⟨AT, eT⟩ : ∃ x : D, x = .int at_ := ⟨_, rfl⟩
  obtain ⟨HD, eH⟩ : ∃ x : D, x = .lst (H.map D.str) := ⟨_, rfl⟩
  obtain ⟨SD, eS⟩ : ∃ x : D, x = .lst (S.map D.str) := ⟨_, rfl⟩
  obtain ⟨lh, hlh⟩ : ∃ l : Int, l = (H.length : Int) := ⟨_, rfl⟩
  have ln : lenD [HD] = some (.int lh) := by rw [eH, lenD_lst, List.length_map, hlh]
  obtain ⟨n, hn⟩ : ∃ n : Nat, n = (lh + more).toNat := ⟨_, rfl⟩
  have hr : rng1 [.int (lh + more)] = some ((List.range n).map fun k : Nat => D.int (k : Int)) := by
    rw [rng1, if_pos (by omega), hn]
  obtain ⟨Γ', f1, R, f2, f3⟩ := forL_rel (fg := [4, 6, 7, 8, 9, 10, 11]) (tg := gN 6) (body := L__law_drawn_rules_1) (fun k : Nat => D.int (k : Int)) (fun ys Γ => ∃ R, Γ = ⟨[some (.d A), some (.d AT), some (.d HD), some (.d SD), none, some (.lc 0), none, none, none, none, none, none], [.p (.lst (R.map ruleD))]⟩ ∧ DInv H S ys.length R) (as := List.range n)
    (Γ := ⟨[some (.d A), some (.d AT), some (.d HD), some (.d SD), some (.d (.int more)), some (.lc 0), none, none, none, none, none, none], [.p (.lst [])]⟩) (fun ys zs k Γ hx hI => by
      obtain ⟨R, rfl, I⟩ := hI
      obtain ⟨e1, e2⟩ := range_at hx
      rw [← e1] at I
      obtain ⟨R', s1, s2⟩ := drawn_step h1 h2 h3 hH hS eA eT eH eS (by omega) I
      exact ⟨_, s1, R', rfl, by rw [List.length_append, List.length_singleton, ← e1]; exact s2⟩)
    ⟨[], rfl, ⟨Nat.zero_le _, (fun _ z => nomatch z), List.nodup_nil, fun k hk => absurd hk (Nat.not_lt_zero _)⟩⟩
  rw [List.length_range] at f3
  have all : ∀ s ∈ H, s ∈ R.map (·.1) := fun s hs => by
    obtain ⟨k, hk, rfl⟩ := List.getElem_of_mem hs
    exact f3.al k (by omega) hk
  refine ⟨R, ?_, ⟨?_, by have := f3.le; omega, fun r hr => (f3.ok r hr).1, f3.nd, fun r hr s hs hh => ?_, S, by omega, fun r hr s hs hg => ?_⟩⟩
  · rw [← eA, ← eT, ← eH, ← eS]
    obtain ⟨RL, hRL⟩ : ∃ x, x = (List.range n).map fun k : Nat => D.int (k : Int) := ⟨_, rfl⟩
    rw [← hRL] at hr f1
    subst f2
    simp [F__law_drawn_rules, defP, runP, B__law_drawn_rules, slotsP, ln, hr, f1]
  · have := all H[0] (List.getElem_mem _)
    obtain ⟨r, hr, _⟩ := List.mem_map.mp this
    exact List.length_pos_of_mem hr
  · rcases List.mem_append.mp ((f3.ok r hr).2 s hs) with z | z
    · exact all s z
    · rw [sign_not_head (hS s z)] at hh; cases hh
  · rcases List.mem_append.mp ((f3.ok r hr).2 s hs) with z | z
    · have := hH s z
      rw [sign_not_head hg] at this
      cases this
    · exact z
/-! ### the rules of a script -/
theorem cut_takeD (xs : List D) (k : Nat) : cutD xs none (some (k : Int)) = xs.take k := by
  have : ¬ ((k : Int) < 0) := by omega
  simp [cutD, HT.sIx, this, List.take_eq_take_iff]
theorem rules_eq (ns : List Int) : ∃ R, F__law_rules [.fl (ns.map D.int), .int 1] = .ok (.lst (R.map ruleD)) ∧ OkB R := by
  obtain ⟨ds, hd, dr⟩ := row_eq ns 1 360 3 (by decide) (by decide) (by decide)
  obtain ⟨d0, d0a, d0b⟩ := draw_at dr (i := 0) (by decide)
  obtain ⟨d1, d1a, d1b⟩ := draw_at dr (i := 1) (by decide)
  obtain ⟨d2, d2a, d2b⟩ := draw_at dr (i := 2) (by decide)
  obtain ⟨u, hu⟩ : ∃ u, u = ds.getD 0 0 := ⟨_, rfl⟩
  obtain ⟨v, hv⟩ : ∃ u, u = ds.getD 1 0 := ⟨_, rfl⟩
  obtain ⟨w, hw⟩ : ∃ u, u = ds.getD 2 0 := ⟨_, rfl⟩
  rw [← hu] at d0 d0a d0b
  rw [← hv] at d1 d1a d1b
  rw [← hw] at d2 d2a d2b
  obtain ⟨hs, e1, n1, n2, n3⟩ := lheads_eq d1a d1b
  obtain ⟨pool, _, p1, p2, p3, p5⟩ := lsigns_eq (c := w)
  have N : Names hs (pool.take 5) := ⟨n1, n2, n3, by rw [List.length_take]; omega, fun s hs => p2 s (List.mem_of_mem_take hs), p3.sublist (List.take_sublist _ _)⟩
  obtain ⟨ss, hss⟩ : ∃ ss, ss = pool.take 5 := ⟨_, rfl⟩
  rw [← hss] at N p5
  obtain ⟨DS, hDS⟩ : ∃ x : D, x = .lst (ds.map D.int) := ⟨_, rfl⟩
  obtain ⟨A, eA⟩ : ∃ x : D, x = .fl (ns.map D.int) := ⟨_, rfl⟩
  obtain ⟨HS, eH⟩ : ∃ x : D, x = .lst (hs.map D.str) := ⟨_, rfl⟩
  obtain ⟨SS, eS⟩ : ∃ x : D, x = .lst (ss.map D.str) := ⟨_, rfl⟩
  have hd : F__law_row [A, .int 1, .int 360, .int 3] = .ok DS := by rw [eA, hDS]; exact hd
  have d0 : ixD DS (.int 0) = some (.int u) := by rw [hDS]; exact d0
  have d1 : ixD DS (.int 1) = some (.int v) := by rw [hDS]; exact d1
  have d2 : ixD DS (.int 2) = some (.int w) := by rw [hDS]; exact d2
  have e1 : F__law_heads [.int v, .int 3] = .ok HS := by rw [eH]; exact e1
  have p5 : F__law_signs [.int w, .int 5] = .ok SS := by rw [eS]; exact p5
  have q1 : mulD (.int 3) (.int 3) = some (.int 9) := by rw [mulD_int _ _ (by decide)]; rfl
  have q2 : mulD (.int 9) (.int 5) = some (.int 45) := by rw [mulD_int _ _ (by decide)]; rfl
  have q3 : mulD (.int 45) (.int 8) = some (.int 360) := by rw [mulD_int _ _ (by decide)]; rfl
  have dv45 := divD_int u 45 ⟨by decide, by decide⟩
  rw [← eA]
  by_cases hb : u / 45 < 3
  · obtain ⟨sh, s1, s2⟩ := shape_eq d0a d0b
    have V := vshp s2
    refine ⟨shR hs ss sh, ?_, shR_ok N V⟩
    have lp := shape_loop N V eH eS (Γ := ⟨[some (.d A), some (.d (.int 1)), some (.d DS), some (.d HS), some (.d SS), some (.lc 0), none, none, none, none, none], [.p (.lst [])]⟩) rfl
    obtain ⟨X, hX⟩ : ∃ X, X = shpD sh := ⟨_, rfl⟩
    rw [← hX] at s1 lp
    simp [F__law_rules, defP, runP, B__law_rules, slotsP, q1, q2, q3, hd, d0, d1, d2, e1, p5, dv45, hb, s1, lp]
  · have a0 := Int.emod_nonneg u (show (3 : Int) ≠ 0 by decide)
    have a1 := Int.emod_lt_of_pos u (show (0 : Int) < 3 by decide)
    have b0 := Int.emod_nonneg (u / 3) (show (3 : Int) ≠ 0 by decide)
    have b1 := Int.emod_lt_of_pos (u / 3) (show (0 : Int) < 3 by decide)
    have c0 := Int.emod_nonneg (u / 9) (show (4 : Int) ≠ 0 by decide)
    have c1 := Int.emod_lt_of_pos (u / 9) (show (0 : Int) < 4 by decide)
    obtain ⟨a, ha⟩ : ∃ a : Nat, a = (1 + u % 3).toNat := ⟨_, rfl⟩
    obtain ⟨b, hb'⟩ : ∃ a : Nat, a = (1 + u / 3 % 3).toNat := ⟨_, rfl⟩
    have sa : slD HS none (some (1 + u % 3)) = some (.lst ((hs.take a).map D.str)) := by
      have : (1 + u % 3) = (a : Int) := by omega
      rw [eH, slD, this, cut_takeD, List.map_take]
    have sb : slD SS none (some (1 + u / 3 % 3)) = some (.lst ((ss.take b).map D.str)) := by
      have : (1 + u / 3 % 3) = (b : Int) := by omega
      rw [eS, slD, this, cut_takeD, List.map_take]
    have l1 := N.hl
    have l2 := N.sl
    obtain ⟨R, r1, r2⟩ := drawn_eq (ns := ns) (at_ := 2) (H := hs.take a) (S := ss.take b) (by rw [List.length_take]; omega) (by rw [List.length_take]; omega) (by rw [List.length_take]; omega) (fun s z => N.hh s (List.mem_of_mem_take z)) (fun s z => N.sh s (List.mem_of_mem_take z)) c0 (by omega : u / 9 % 4 ≤ 3)
    refine ⟨R, ?_, r2⟩
    obtain ⟨X, hX⟩ : ∃ x : D, x = .lst ((hs.take a).map D.str) := ⟨_, rfl⟩
    obtain ⟨Y, hY⟩ : ∃ x : D, x = .lst ((ss.take b).map D.str) := ⟨_, rfl⟩
    rw [← hX] at sa r1
    rw [← hY] at sb r1
    have r1 : F__law_drawn_rules [A, .int 2, X, Y, .int (u / 9 % 4)] = .ok (.lst (R.map ruleD)) := by rw [eA]; exact r1
    have dv3 := divD_int u 3 ⟨by decide, by decide⟩
    have dv9 := divD_int u 9 ⟨by decide, by decide⟩
    simp [F__law_rules, defP, runP, B__law_rules, slotsP, q1, q2, q3, hd, d0, d1, d2, e1, p5, dv45, hb, dv3, dv9, modD_int _ _ (show (0 : Int) < 3 by decide), modD_int _ _ (show (0 : Int) < 4 by decide), sa, sb, r1]
/-! ### many rules -/
abbrev aS := Str.ofString "a"
abbrev bS := Str.ofString "b"
theorem ab_sign : signB aS = true ∧ signB bS = true := by decide +kernel
theorem bits_all : ((List.range 16).all fun k => (List.range 4).all fun j => decide (Builtin.bitAnd ((k : Int) / 2 ^ ((j : Int).toNat)) 1 = 0) || decide (Builtin.bitAnd ((k : Int) / 2 ^ ((j : Int).toNat)) 1 = 1)) = true := by decide +kernel
def abS (k j : Nat) : Str := if Builtin.bitAnd ((k : Int) / 2 ^ ((j : Int).toNat)) 1 = 0 then aS else bS
def abR (k : Nat) : List Str := (List.range 4).map (abS k)
theorem ab_at {k j : Nat} (hk : k < 16) (hj : j < 4) : ixD (.lst [.str aS, .str bS]) (.int (Builtin.bitAnd ((k : Int) / 2 ^ ((j : Int).toNat)) 1)) = some (.str (abS k j)) := by
  have h := List.all_eq_true.mp (List.all_eq_true.mp bits_all k (List.mem_range.mpr hk)) j (List.mem_range.mpr hj)
  rcases Bool.or_eq_true_iff.mp h with h | h
  · have h := of_decide_eq_true h
    rw [abS, if_pos h, h]; rfl
  · have h := of_decide_eq_true h
    rw [abS, if_neg (by rw [h]; decide), h]; rfl
structure MInv (R : List (Str × List Str)) (hd : Str) (R' : List (Str × List Str)) : Prop where
  ex : ∃ E : List (Str × List Str), R' = R ++ E ∧ ∀ e ∈ E, e.1 = hd ∧ e.2.length = 4 ∧ ∀ s ∈ e.2, s = aS ∨ s = bS
  nd : R'.Nodup
theorem MInv.ok {R R' : List (Str × List Str)} {hd : Str} (h : MInv R hd R') (hR : OkB R) (hh : hd ∈ R.map (·.1)) : ∀ r ∈ R', OkRule r := by
  obtain ⟨E, rfl, hE⟩ := h.ex
  intro r hr
  rcases List.mem_append.mp hr with hr | hr
  · exact hR.ok r hr
  · obtain ⟨e1, e2, e3⟩ := hE r hr
    obtain ⟨q, hq, e⟩ := List.mem_map.mp hh
    refine ⟨by rw [e1, ← e]; exact (hR.ok q hq).hd, by omega, fun s hs => ?_⟩
    rcases e3 s hs with rfl | rfl
    · exact signB_sym ab_sign.1
    · exact signB_sym ab_sign.2
theorem many_g {R R' : List (Str × List Str)} {hd : Str} (h : MInv R hd R') (hR : OkB R) (hh : hd ∈ R.map (·.1)) : OkG (R'.take 20) := by
  have ok := h.ok hR hh
  obtain ⟨E, rfl, hE⟩ := h.ex
  have le := hR.le
  have ne := hR.ne
  have et : (R ++ E).take 20 = R ++ E.take (20 - R.length) := by rw [List.take_append, List.take_of_length_le (by omega)]
  have heads : ∀ r ∈ R ++ E.take (20 - R.length), r.1 ∈ R.map (·.1) := by
    intro r hr
    rcases List.mem_append.mp hr with hr | hr
    · exact List.mem_map.mpr ⟨r, hr, rfl⟩
    · rw [(hE r (List.mem_of_mem_take hr)).1]; exact hh
  have sub : ∀ s, s ∈ R.map (·.1) → s ∈ (R ++ E.take (20 - R.length)).map (·.1) := fun s hs => by
    rw [List.map_append]; exact List.mem_append_left _ hs
  obtain ⟨S, hS, hsS⟩ := hR.ns
  rw [et]
  refine ⟨⟨by rw [List.length_append]; omega, by rw [← et, List.length_take]; omega, fun r hr => ok r ?_, by rw [← et]; exact h.nd.sublist (List.take_sublist _ _)⟩, fun r hr s hs hb => ?_, ?_, S ++ [aS, bS], by simp; omega, fun r hr s hs hg => ?_⟩
  · rw [← et] at hr; exact List.mem_of_mem_take hr
  · rcases List.mem_append.mp hr with hr | hr
    · exact sub s (hR.hs r hr s hs hb)
    · rcases (hE r (List.mem_of_mem_take hr)).2.2 s hs with rfl | rfl
      · rw [sign_not_head ab_sign.1] at hb; cases hb
      · rw [sign_not_head ab_sign.2] at hb; cases hb
  · have := nodup_len (nodup_ded ((R ++ E.take (20 - R.length)).map (·.1))) (S := R.map (·.1)) fun s hs => by
      obtain ⟨r, hr, rfl⟩ := List.mem_map.mp (mem_ded.mp hs)
      exact heads r hr
    rw [List.length_map] at this
    omega
  · rcases List.mem_append.mp hr with hr | hr
    · exact List.mem_append_left _ (hsS r hr s hs hg)
    · rcases (hE r (List.mem_of_mem_take hr)).2.2 s hs with rfl | rfl <;> simp
theorem many_eq {R : List (Str × List Str)} (hR : OkB R) {m : Int} : ∃ R' hd, F__law_many [.lst (R.map ruleD), .int m] = .ok (.lst (R'.map ruleD)) ∧ hd ∈ R.map (·.1) ∧ MInv R hd R' := by
  obtain ⟨Q, q, hq⟩ : ∃ Q q, R = Q ++ [q] := by
    rcases List.eq_nil_or_concat R with rfl | ⟨Q, q, e⟩
    · have := hR.ne; simp at this
    · exact ⟨Q, q, by rw [e, List.concat_eq_append]⟩
  have hm : q.1 ∈ R.map (·.1) := List.mem_map.mpr ⟨q, by rw [hq]; simp, rfl⟩
  obtain ⟨RD, hRD⟩ : ∃ x : D, x = .lst (R.map ruleD) := ⟨_, rfl⟩
  have il : ixD RD (.int (-1)) = some (ruleD q) := by
    rw [hRD, hq, List.map_append]
    exact ix_last _ _
  have i0 : ixD (ruleD q) (.int 0) = some (.str q.1) := (two_at _ _).1
  have z2 : (2 : Nat) ≤ sizeLine := by decide
  have r4 : rng1 [.int 4] = some ((List.range 4).map fun j : Nat => D.int (j : Int)) := by rw [rng1, if_pos (by decide)]; rfl
  have r16 : rng1 [.int 16] = some ((List.range 16).map fun j : Nat => D.int (j : Int)) := by rw [rng1, if_pos (by decide)]; rfl
  obtain ⟨X4, hX4⟩ : ∃ x, x = (List.range 4).map fun j : Nat => D.int (j : Int) := ⟨_, rfl⟩
  have l4 : X4.length ≤ 10000000 := by rw [hX4]; simp
  rw [← hX4] at r4
  obtain ⟨Γ', f1, R', f2, f3, f4⟩ := forL_rel (fg := [3, 4, 5]) (tg := gN 3) (body := L__law_many_1) (fun k : Nat => D.int (k : Int)) (fun ys Γ => ∃ R', Γ = ⟨[some (.d RD), some (.d (.int m)), some (.lc 0), none, none, none], [.p (.lst (R'.map ruleD))]⟩ ∧ MInv R q.1 R' ∧ R'.length ≤ R.length + ys.length) (as := List.range 16)
    (Γ := ⟨[some (.d RD), some (.d (.int m)), some (.lc 0), none, none, none], [.p (.lst (R.map ruleD))]⟩) (fun ys zs k Γ hx hI => by
      obtain ⟨R', rfl, I, hl⟩ := hI
      obtain ⟨e1, e2⟩ := range_at hx
      have okR := I.ok hR hm
      have lc := lcL_map (sl := [some (.d RD), some (.d (.int m)), some (.lc 0), some (.d (.int k)), none, none]) (vs := [5]) (tg := gN 5) (tt := tYes1) (te := sIx (sLst (sCons (sC (.str aS)) (sCons (sC (.str bS)) sNil))) (sOp andD (sOp shrD (sVar 3) (sVar 5)) (sC (.int 1)))) (mm := [.p (.lst (R'.map ruleD))]) (xs := (List.range 4).map fun j : Nat => D.int (j : Int))
        (fun d => match d with | .int j => .str (abS k j.toNat) | _ => .non) (fun x hx => by
          obtain ⟨j, hj, rfl⟩ := List.mem_map.mp hx
          have hj := List.mem_range.mp hj
          have := ab_at e2 hj
          obtain ⟨Y, hY⟩ : ∃ Y, Y = Builtin.bitAnd ((k : Int) / 2 ^ ((j : Int).toNat)) 1 := ⟨_, rfl⟩
          have sh : shrD (.int k) (.int j) = some (.int ((k : Int) / 2 ^ ((j : Int).toNat))) := shrD_int (by omega)
          have an : andD (.int ((k : Int) / 2 ^ ((j : Int).toNat))) (.int 1) = some (.int Y) := by rw [hY]; rfl
          rw [← hY] at this
          obtain ⟨W, hW⟩ : ∃ W : Int, W = (k : Int) / 2 ^ ((j : Int).toNat) := ⟨_, rfl⟩
          rw [← hW] at sh an
          simp only [Int.toNat_natCast]
          obtain ⟨J, hJ⟩ : ∃ J : Int, J = (j : Int) := ⟨_, rfl⟩
          rw [← hJ] at sh ⊢
          simp [lcStep, z2, sh, an, this]) []
      have mb : ((List.range 4).map fun j : Nat => D.int (j : Int)).map (fun d => match d with | .int j => D.str (abS k j.toNat) | _ => .non) = (abR k).map D.str := by
        rw [abR, List.map_map, List.map_map]; rfl
      rw [List.nil_append, mb, ← hX4] at lc
      have sR : ∀ r ∈ R', strsOk r := fun r hr => (okR r hr).ok
      have okn : strsOk (q.1, abR k) := by
        refine ⟨(sym_ok (headB_sym (hR.ok q (by rw [hq]; simp)).hd)).1, fun s hs => ?_⟩
        obtain ⟨j, _, rfl⟩ := List.mem_map.mp hs
        unfold abS
        split
        · exact (sym_ok (signB_sym ab_sign.1)).1
        · exact (sym_ok (signB_sym ab_sign.2)).1
      have ni := (in_rules okn sR).2
      have rd : ruleD (q.1, abR k) = .tup [.str q.1, .tup ((abR k).map D.str)] := rfl
      obtain ⟨F, hF⟩ : ∃ x, x = R'.map ruleD := ⟨_, rfl⟩
      obtain ⟨B, hB⟩ : ∃ x, x = (abR k).map D.str := ⟨_, rfl⟩
      have lF : F.length = R'.length := by rw [hF, List.length_map]
      have hz : F.length < sizeLine := by
        have := hR.le
        rw [lF, sizeLine]; omega
      have ap : (R' ++ [(q.1, abR k)]).map ruleD = F ++ [.tup [.str q.1, .tup B]] := by rw [List.map_append, hF, hB]; rfl
      rw [rd, ← hF, ← hB] at ni
      rw [← hF, ← hB] at lc
      by_cases hin : (q.1, abR k) ∈ R'
      · rw [decide_eq_true hin] at ni
        refine ⟨_, ?_, R', rfl, I, by rw [List.length_append]; omega⟩
        rw [← hF]
        simp [fStep, L__law_many_1, negD, il, i0, r4, l4, lc, tupD, z2, ni]
      · rw [decide_eq_false hin] at ni
        by_cases hm2 : (F.length : Int) < m
        · refine ⟨⟨[some (.d RD), some (.d (.int m)), some (.lc 0), none, none, none], [.p (.lst ((R' ++ [(q.1, abR k)]).map ruleD))]⟩, ?_, R' ++ [(q.1, abR k)], rfl, ⟨?_, ?_⟩, by simp only [List.length_append, List.length_singleton]; omega⟩
          · rw [ap, ← hF]
            simp [fStep, L__law_many_1, negD, il, i0, r4, l4, lc, tupD, z2, ni, hm2, hz]
          · obtain ⟨E, eE, hE⟩ := I.ex
            refine ⟨E ++ [(q.1, abR k)], by rw [eE]; simp, fun e he => ?_⟩
            rcases List.mem_append.mp he with he | he
            · exact hE e he
            · rw [List.mem_singleton.mp he]
              refine ⟨rfl, by simp [abR], fun s hs => ?_⟩
              obtain ⟨j, _, rfl⟩ := List.mem_map.mp hs
              unfold abS
              split
              · exact .inl rfl
              · exact .inr rfl
          · refine List.nodup_append.mpr ⟨I.nd, by simp, fun a ha b hb e => ?_⟩
            rw [List.mem_singleton.mp hb] at e
            exact hin (e ▸ ha)
        · refine ⟨_, ?_, R', rfl, I, by rw [List.length_append]; omega⟩
          rw [← hF]
          simp [fStep, L__law_many_1, negD, il, i0, r4, l4, lc, tupD, z2, ni, hm2]) ⟨R, rfl, ⟨⟨[], by simp, (fun _ z => nomatch z)⟩, hR.nd⟩, Nat.le_refl _⟩
  refine ⟨R', q.1, ?_, hm, f3⟩
  obtain ⟨X, hX⟩ : ∃ x, x = (List.range 16).map fun j : Nat => D.int (j : Int) := ⟨_, rfl⟩
  rw [← hX] at r16 f1
  have li : listD [RD] = some (.lst (R.map ruleD)) := by rw [hRD]; rfl
  rw [← hRD]
  subst f2
  simp [F__law_many, defP, runP, B__law_many, slotsP, li, r16, f1]
/-! ### the law -/
theorem grps_ones (R : List (Str × List Str)) (h : R.length ≤ 20) : grpsOf (List.replicate 20 1) R = grps1 R := by
  have H : ∀ (l : List ((Str × List Str) × Nat)) (G : List Grp), (∀ p ∈ l, p.2 < 20) → l.foldl (fun G p => gstep (decide (0 < (List.replicate 20 (1 : Int)).getD p.2 0)) G p.1) G = (l.map (·.1)).foldl (fun G r => gstep true G r) G := by
    intro l
    induction l with
    | nil => intro G _; rfl
    | cons p l ih =>
      intro G hp
      have h1 := hp p (List.mem_cons_self ..)
      have e : (List.replicate 20 (1 : Int)).getD p.2 0 = 1 := by
        rw [List.getD_eq_getElem?_getD, List.getElem?_replicate, if_pos h1]; rfl
      rw [List.foldl_cons, e, ih _ fun q hq => hp q (List.mem_cons_of_mem _ hq)]
      rfl
  have := H R.zipIdx [] fun p hp => by
    have := List.snd_lt_of_mem_zipIdx hp
    simp at this
    omega
  rw [List.zipIdx_map_fst] at this
  exact this
theorem head0 {R : List (Str × List Str)} (h : 1 ≤ R.length) : ∃ r0, R[0]? = some r0 := ⟨R[0], by simp [h]⟩
/-- one text of the law -/
theorem one_text {R K : List (Str × List Str)} {r0 : Str × List Str} (h : OkG R) (h0 : R[0]? = some r0) (hk : OkRanks K) {ps : List Int} (hp : 20 ≤ ps.length) : ∃ t, F__law_text [.lst (R.map ruleD), .lst (K.map ruleD), .lst (ps.map D.int)] = .ok (.str t) ∧ F_read_grammar [.str t] = .ok (gramD R K r0.1) := by
  obtain ⟨e1, e2⟩ := ltext_eq (K := K) h.rs.ok h.rs.le hp hk
  have f := grps_flat ps R
  refine ⟨_, e1, ?_⟩
  have := read_eq (K := K) (G := grpsOf ps R) (r0 := r0) ⟨hk, e2, by rw [f]; exact h⟩ (by rw [f]; exact h0)
  rw [f] at this
  exact this
theorem law_core {ns : List Int} (hn : ns.length ≤ 63) {R K : List (Str × List Str)} (h : OkG R) (hk : OkRanks K) {A RD0 KD : D} {w : Int} (eA : A = .fl (ns.map D.int)) (hr : F__law_rules [A, .int 1] = .ok RD0) (hK : F__law_ranks [A, .int 9] = .ok KD) (eK : KD = .lst (K.map ruleD)) {ws : D} (hw : F__law_row [A, .int 10, .int 96, .int 1] = .ok ws) (hw0 : ixD ws (.int 0) = some (.int w))
    (hR : (w % 4 = 3 ∧ ∃ R', F__law_many [RD0, .int (w / 4 % 24)] = .ok R' ∧ slD R' none (some 20) = some (.lst (R.map ruleD))) ∨ (¬ w % 4 = 3 ∧ RD0 = .lst (R.map ruleD))) : F_law [A] = .ok (.bl true) := by
  obtain ⟨r0, h0⟩ := head0 h.rs.ne
  obtain ⟨RD, eR⟩ : ∃ x : D, x = .lst (R.map ruleD) := ⟨_, rfl⟩
  obtain ⟨S, eS⟩ : ∃ x, x = textT K (grps1 R) := ⟨_, rfl⟩
  obtain ⟨G, eG⟩ : ∃ x, x = gramD R K r0.1 := ⟨_, rfl⟩
  obtain ⟨ON, eO⟩ : ∃ x : D, x = .lst ((List.replicate 20 (1 : Int)).map D.int) := ⟨_, rfl⟩
  have mu : mulD (.lst [.int 1]) (.int 20) = some ON := by rw [eO, mulD, if_pos (by decide)]; rfl
  have tS : F__law_text [RD, KD, ON] = .ok (.str S) := by
    rw [eR, eK, eO, eS, ← grps_ones R h.rs.le]
    exact (ltext_eq h.rs.ok h.rs.le (by simp) hk).1
  have rS : F_read_grammar [.str S] = .ok G := by
    obtain ⟨t, t1, t2⟩ := one_text h h0 hk (ps := List.replicate 20 1) (by simp)
    rw [← eR, ← eK, ← eO, tS] at t1
    have : S = t := by injection t1 with t1; injection t1
    rw [this, eG]; exact t2
  have ri : F__law_right [G, RD, KD, .str S] = .ok (.bl true) := by
    rw [eG, eR, eS]
    exact right_eq h h0 hk eK
  have ini := init_eq h h0 hk (mm := []) rfl (x := .tup (K.map ruleD)) (.inr rfl)
  rw [← eR, ← eG] at ini
  simp only [List.length_nil, List.nil_append] at ini
  obtain ⟨TK, eT⟩ : ∃ x : D, x = .tup (K.map ruleD) := ⟨_, rfl⟩
  rw [← eT] at ini
  have li : listD [RD] = some RD := by rw [eR]; rfl
  have ti : tupD [KD] = some TK := by rw [eK, eT]; rfl
  obtain ⟨ln, hln⟩ : ∃ l : Int, l = (ns.length : Int) := ⟨_, rfl⟩
  have lA : lenD [A] = some (.int ln) := by rw [eA, hln]; simp [lenD]
  obtain ⟨mn, hmn⟩ : ∃ x : Int, x = (if (20 : Int) < ln then 20 else ln) := ⟨_, rfl⟩
  obtain ⟨hi, hhi⟩ : ∃ x : Int, x = (if mn > 13 then mn else 13) := ⟨_, rfl⟩
  have b1 : 13 ≤ hi ∧ hi ≤ 20 := by
    have : mn ≤ 20 := by
      rw [hmn]
      split <;> omega
    rw [hhi]
    split <;> omega
  have mi : min2D [.int ln, .int 20] = some (.int mn) := by rw [hmn]; rfl
  have ma : max2D [.int 13, .int mn] = some (.int hi) := by rw [hhi]; rfl
  obtain ⟨X, hX⟩ : ∃ x, x = (List.range (hi - 11).toNat).map fun i : Nat => D.int (11 + (i : Int)) := ⟨_, rfl⟩
  have rg : rng2 [.int 11, .int hi] = some X := by rw [rng2, if_pos (by omega), hX]
  have lp : forL [3, 5, 6] (gN 5) L_law_1 X ⟨[some (.d A), some (.d RD), some (.d KD), some (.d (.int w)), some (.d (.str S)), none, none], []⟩ = .ok .nx ⟨[some (.d A), some (.d RD), some (.d KD), none, some (.d (.str S)), none, none], []⟩ := by
    rw [hX]
    refine forL_mapK (fun i : Nat => D.int (11 + (i : Int))) (fun i hi => ?_) rfl
    obtain ⟨ps, p1, p2⟩ := row_eq ns (11 + i) 2 20 (by decide) (by decide) (by decide)
    obtain ⟨t, t1, t2⟩ := one_text h h0 hk (ps := ps) (by rw [p2.len]; exact Nat.le_refl _)
    obtain ⟨PS, eP⟩ : ∃ x : D, x = .lst (ps.map D.int) := ⟨_, rfl⟩
    obtain ⟨I, eI⟩ : ∃ x : Int, x = 11 + (i : Int) := ⟨_, rfl⟩
    have p1 : F__law_row [A, .int I, .int 2, .int 20] = .ok PS := by
      have : ((11 + i : Nat) : Int) = I := by omega
      rw [eA, eP, ← this]; exact p1
    rw [← eP, ← eR, ← eK] at t1
    rw [← eG] at t2
    rw [← eI]
    simp [fStep, L_law_1, p1, t1, t2, ri]
  have q1 : mulD (.int 4) (.int 24) = some (.int 96) := by rw [mulD_int _ _ (by decide)]; rfl
  have d4 := divD_int w 4 ⟨by decide, by decide⟩
  have m4 := modD_int w 4 (by decide)
  have m24 := modD_int (w / 4) 24 (by decide)
  have z1 : (1 : Nat) ≤ sizeLine := by decide
  rcases hR with ⟨c, R', c1, c2⟩ | ⟨c, c1⟩
  · rw [← eR] at c2
    simp [F_law, defP, runP, B_law, slotsP, hr, hK, q1, hw, hw0, m4, c, d4, m24, c1, c2, z1, mu, tS, lA, mi, ma, rg, lp, li, ti, ini, fz, fzU, ri, rS]
  · rw [← eR] at c1
    subst c1
    simp [F_law, defP, runP, B_law, slotsP, hr, hK, q1, hw, hw0, m4, c, z1, mu, tS, lA, mi, ma, rg, lp, li, ti, ini, fz, fzU, ri, rS]
theorem law_true (ns : List Int) (hn : ns.length ≤ 63) : F_law [.fl (ns.map D.int)] = .ok (.bl true) := by
  obtain ⟨R0, r1, r2⟩ := rules_eq ns
  obtain ⟨K, k1, k2⟩ := ranks_eq ns 9
  obtain ⟨ws, w1, w2⟩ := row_eq ns 10 96 1 (by decide) (by decide) (by decide)
  obtain ⟨i0, _, _⟩ := draw_at w2 (i := 0) (by decide)
  obtain ⟨w, hw⟩ : ∃ w, w = ws.getD 0 0 := ⟨_, rfl⟩
  rw [← hw] at i0
  by_cases c : w % 4 = 3
  · obtain ⟨R', hd, m1, m2, m3⟩ := many_eq r2 (m := w / 4 % 24)
    have cut : slD (.lst (R'.map ruleD)) none (some 20) = some (.lst ((R'.take 20).map ruleD)) := by
      rw [slD, show (20 : Int) = ((20 : Nat) : Int) from rfl, cut_takeD, List.map_take]
    exact law_core hn (many_g m3 r2 m2) k2 rfl r1 k1 rfl w1 i0 (.inl ⟨c, _, m1, cut⟩)
  · exact law_core hn r2.g k2 rfl r1 k1 rfl w1 i0 (.inr ⟨c, rfl⟩)
def topS (i : Nat) : Stmt := PySem.Challenge.pw_rulestable_k07_texts_there_and_back.main.body.getD i (.Pass ⟨0, 0, 0, 0⟩)
def clsM (i j : Nat) : Stmt := match topS i with | .ClassDef _ _ _ b _ _ _ _ _ _ _ => b.getD j (.Pass ⟨0, 0, 0, 0⟩) | _ => .Pass ⟨0, 0, 0, 0⟩
abbrev s__wall : Stmt := topS 0
abbrev s_is_made_of : Stmt := topS 15
abbrev s_is_sign : Stmt := topS 16
abbrev s_is_head : Stmt := topS 17
abbrev s_is_symbol : Stmt := topS 18
abbrev s_is_rule : Stmt := topS 26
abbrev s_is_rank : Stmt := topS 27
abbrev s_need_rules : Stmt := topS 28
abbrev s_need_ranks : Stmt := topS 29
abbrev s_rank_in : Stmt := topS 32
abbrev s_body_in : Stmt := topS 33
abbrev s_parted_words : Stmt := topS 34
abbrev s_rules_in : Stmt := topS 35
abbrev s_read_grammar : Stmt := topS 36
abbrev s_body_text : Stmt := topS 37
abbrev s_show_grammar : Stmt := topS 38
abbrev s__law_cell : Stmt := topS 40
abbrev s__law_stir : Stmt := topS 41
abbrev s__law_row : Stmt := topS 42
abbrev s__law_heads : Stmt := topS 43
abbrev s__law_signs : Stmt := topS 44
abbrev s__law_shape : Stmt := topS 45
abbrev s__law_symbol : Stmt := topS 46
abbrev s__law_drawn_rules : Stmt := topS 47
abbrev s__law_rules : Stmt := topS 48
abbrev s__law_ranks : Stmt := topS 49
abbrev s__law_many : Stmt := topS 50
abbrev s__law_body : Stmt := topS 51
abbrev s__law_text : Stmt := topS 52
abbrev s__law_right : Stmt := topS 53
abbrev s_law : Stmt := topS 54
theorem bt_all : bootBuiltins "all" = some (.builtin "all") := by decide +kernel
theorem bt_enumerate : bootBuiltins "enumerate" = some (.type "enumerate") := by decide +kernel
theorem bt_isinstance : bootBuiltins "isinstance" = some (.builtin "isinstance") := by decide +kernel
theorem bt_len : bootBuiltins "len" = some (.builtin "len") := by decide +kernel
theorem bt_list : bootBuiltins "list" = some (.type "list") := by decide +kernel
theorem bt_max : bootBuiltins "max" = some (.builtin "max") := by decide +kernel
theorem bt_min : bootBuiltins "min" = some (.builtin "min") := by decide +kernel
theorem bt_range : bootBuiltins "range" = some (.type "range") := by decide +kernel
theorem bt_set : bootBuiltins "set" = some (.type "set") := by decide +kernel
theorem bt_sorted : bootBuiltins "sorted" = some (.builtin "sorted") := by decide +kernel
theorem bt_str : bootBuiltins "str" = some (.type "str") := by decide +kernel
theorem bt_tuple : bootBuiltins "tuple" = some (.type "tuple") := by decide +kernel
structure Txt (K : PySem.W.Frag) (w : World) (kt cs : List Addr) (mg : Str → Option Value) : Prop where
  isa : IsaOk K isa
  fld : FldOk K fldO fldX
  exm : exmB K exmT = true
  m_TableError : mg "TableError" = some (.ref (cs.getD 0 0))
  a_TableError : clsA K "TableError" = some (cs.getD 0 0)
  m_NoRule : mg "NoRule" = some (.ref (cs.getD 1 0))
  a_NoRule : clsA K "NoRule" = some (cs.getD 1 0)
  m_NoRanks : mg "NoRanks" = some (.ref (cs.getD 2 0))
  a_NoRanks : clsA K "NoRanks" = some (cs.getD 2 0)
  m_NoText : mg "NoText" = some (.ref (cs.getD 3 0))
  a_NoText : clsA K "NoText" = some (cs.getD 3 0)
  m_NoHead : mg "NoHead" = some (.ref (cs.getD 4 0))
  a_NoHead : clsA K "NoHead" = some (cs.getD 4 0)
  m_Doubled : mg "Doubled" = some (.ref (cs.getD 5 0))
  a_Doubled : clsA K "Doubled" = some (cs.getD 5 0)
  m_TooMany : mg "TooMany" = some (.ref (cs.getD 6 0))
  a_TooMany : clsA K "TooMany" = some (cs.getD 6 0)
  m_Grammar : mg "Grammar" = some (.ref (cs.getD 7 0))
  a_Grammar : clsA K "Grammar" = some (cs.getD 7 0)
  b_all : mg "all" = none
  b_enumerate : mg "enumerate" = none
  b_isinstance : mg "isinstance" = none
  b_len : mg "len" = none
  b_list : mg "list" = none
  b_max : mg "max" = none
  b_min : mg "min" = none
  b_range : mg "range" = none
  b_set : mg "set" = none
  b_sorted : mg "sorted" = none
  b_str : mg "str" = none
  b_tuple : mg "tuple" = none
  g_FIGURES : G.GlobIs mg "FIGURES" (.str (Str.ofString "0123456789"))
  g_GREAT : G.GlobIs mg "GREAT" (.str (Str.ofString "ABCDEFGHIJKLMNOPQRSTUVWXYZ"))
  g_LONGEST : G.GlobIs mg "LONGEST" (.int 6)
  g_MOST_HEADS : G.GlobIs mg "MOST_HEADS" (.int 8)
  g_MOST_IN_BODY : G.GlobIs mg "MOST_IN_BODY" (.int 4)
  g_MOST_RANKS : G.GlobIs mg "MOST_RANKS" (.int 6)
  g_MOST_RULES : G.GlobIs mg "MOST_RULES" (.int 20)
  g_MOST_SIGNS : G.GlobIs mg "MOST_SIGNS" (.int 10)
  g_OTHERS : G.GlobIs mg "OTHERS" (.str (Str.ofString "+-*/()[]=<>,;.!?^&"))
  g_SIDES : G.GlobIs mg "SIDES" (.ref (kt.getD 0 0))
  kt_SIDES : ∀ I, Rp K I (.ref (kt.getD 0 0)) (.kt (List.map D.str k_SIDES))
  g_SMALL : G.GlobIs mg "SMALL" (.str (Str.ofString "abcdefghijklmnopqrstuvwxyz"))
theorem sci_NoRule : FnScope ["self", "found"] ["self", "found"] (defScope (clsM 3 0)) := ⟨rfl, rfl, rfl, by decide +kernel, rfl, by decide +kernel, by decide +kernel⟩
theorem oki_NoRule {P : Program} {w : World} {K : PySem.W.Frag} {mg : Str → Option Value} {base : Heap} {kt cs : List Addr} {C fI : Addr} {fd : FuncData} (T : Txt K w kt cs mg) (hC : clsA K "NoRule" = some C) (r : ClX.CRead K (cs.getD 0 0) (.type "type")) (vV : PySem.W.findCls K (.ref (cs.getD 0 0)) (.type "type") "__init__" = some (.val (.builtin "ValueError.__init__"))) (F : Fun K "__init__" "NoRule.__init__" (clsM 3 0) fI fd) (O : OexC K C) : FnOk P w K mg base CX0 1 fI fd ["self", "found"] (G.spI C (Str.ofString "found")) :=
  G.ok_init (m := Str.ofString "no rule") F sci_NoRule O (T.fld.xn "NoRule" "found" C (by decide) hC).2 (fun cdv A outer s H E => pss_cons (ps_expr (G.pe_teinit (by rfl) T.m_TableError r vV (pa_cons (pv 0) (pa_cons pe_str pa_nil)))) (pss_one (ps_ost (pv 0) (pv 1))))
theorem sci_NoRanks : FnScope ["self", "found"] ["self", "found"] (defScope (clsM 4 0)) := ⟨rfl, rfl, rfl, by decide +kernel, rfl, by decide +kernel, by decide +kernel⟩
theorem oki_NoRanks {P : Program} {w : World} {K : PySem.W.Frag} {mg : Str → Option Value} {base : Heap} {kt cs : List Addr} {C fI : Addr} {fd : FuncData} (T : Txt K w kt cs mg) (hC : clsA K "NoRanks" = some C) (r : ClX.CRead K (cs.getD 0 0) (.type "type")) (vV : PySem.W.findCls K (.ref (cs.getD 0 0)) (.type "type") "__init__" = some (.val (.builtin "ValueError.__init__"))) (F : Fun K "__init__" "NoRanks.__init__" (clsM 4 0) fI fd) (O : OexC K C) : FnOk P w K mg base CX0 1 fI fd ["self", "found"] (G.spI C (Str.ofString "found")) :=
  G.ok_init (m := Str.ofString "no ranks") F sci_NoRanks O (T.fld.xn "NoRanks" "found" C (by decide) hC).2 (fun cdv A outer s H E => pss_cons (ps_expr (G.pe_teinit (by rfl) T.m_TableError r vV (pa_cons (pv 0) (pa_cons pe_str pa_nil)))) (pss_one (ps_ost (pv 0) (pv 1))))
theorem sci_NoText : FnScope ["self", "line"] ["self", "line"] (defScope (clsM 5 0)) := ⟨rfl, rfl, rfl, by decide +kernel, rfl, by decide +kernel, by decide +kernel⟩
theorem oki_NoText {P : Program} {w : World} {K : PySem.W.Frag} {mg : Str → Option Value} {base : Heap} {kt cs : List Addr} {C fI : Addr} {fd : FuncData} (T : Txt K w kt cs mg) (hC : clsA K "NoText" = some C) (r : ClX.CRead K (cs.getD 0 0) (.type "type")) (vV : PySem.W.findCls K (.ref (cs.getD 0 0)) (.type "type") "__init__" = some (.val (.builtin "ValueError.__init__"))) (F : Fun K "__init__" "NoText.__init__" (clsM 5 0) fI fd) (O : OexC K C) : FnOk P w K mg base CX0 1 fI fd ["self", "line"] (G.spI C (Str.ofString "line")) :=
  G.ok_init (m := Str.ofString "no such row of text") F sci_NoText O (T.fld.xn "NoText" "line" C (by decide) hC).2 (fun cdv A outer s H E => pss_cons (ps_expr (G.pe_teinit (by rfl) T.m_TableError r vV (pa_cons (pv 0) (pa_cons pe_str pa_nil)))) (pss_one (ps_ost (pv 0) (pv 1))))
theorem sci_NoHead : FnScope ["self", "head"] ["self", "head"] (defScope (clsM 6 0)) := ⟨rfl, rfl, rfl, by decide +kernel, rfl, by decide +kernel, by decide +kernel⟩
theorem oki_NoHead {P : Program} {w : World} {K : PySem.W.Frag} {mg : Str → Option Value} {base : Heap} {kt cs : List Addr} {C fI : Addr} {fd : FuncData} (T : Txt K w kt cs mg) (hC : clsA K "NoHead" = some C) (r : ClX.CRead K (cs.getD 0 0) (.type "type")) (vV : PySem.W.findCls K (.ref (cs.getD 0 0)) (.type "type") "__init__" = some (.val (.builtin "ValueError.__init__"))) (F : Fun K "__init__" "NoHead.__init__" (clsM 6 0) fI fd) (O : OexC K C) : FnOk P w K mg base CX0 1 fI fd ["self", "head"] (G.spI C (Str.ofString "head")) :=
  G.ok_init (m := Str.ofString "a head without a rule") F sci_NoHead O (T.fld.xn "NoHead" "head" C (by decide) hC).2 (fun cdv A outer s H E => pss_cons (ps_expr (G.pe_teinit (by rfl) T.m_TableError r vV (pa_cons (pv 0) (pa_cons pe_str pa_nil)))) (pss_one (ps_ost (pv 0) (pv 1))))
theorem sci_Doubled : FnScope ["self", "number"] ["self", "number"] (defScope (clsM 7 0)) := ⟨rfl, rfl, rfl, by decide +kernel, rfl, by decide +kernel, by decide +kernel⟩
theorem oki_Doubled {P : Program} {w : World} {K : PySem.W.Frag} {mg : Str → Option Value} {base : Heap} {kt cs : List Addr} {C fI : Addr} {fd : FuncData} (T : Txt K w kt cs mg) (hC : clsA K "Doubled" = some C) (r : ClX.CRead K (cs.getD 0 0) (.type "type")) (vV : PySem.W.findCls K (.ref (cs.getD 0 0)) (.type "type") "__init__" = some (.val (.builtin "ValueError.__init__"))) (F : Fun K "__init__" "Doubled.__init__" (clsM 7 0) fI fd) (O : OexC K C) : FnOk P w K mg base CX0 1 fI fd ["self", "number"] (G.spI C (Str.ofString "number")) :=
  G.ok_init (m := Str.ofString "a rule told twice") F sci_Doubled O (T.fld.xn "Doubled" "number" C (by decide) hC).2 (fun cdv A outer s H E => pss_cons (ps_expr (G.pe_teinit (by rfl) T.m_TableError r vV (pa_cons (pv 0) (pa_cons pe_str pa_nil)))) (pss_one (ps_ost (pv 0) (pv 1))))
theorem sci_TooMany : FnScope ["self", "found"] ["self", "found"] (defScope (clsM 8 0)) := ⟨rfl, rfl, rfl, by decide +kernel, rfl, by decide +kernel, by decide +kernel⟩
theorem oki_TooMany {P : Program} {w : World} {K : PySem.W.Frag} {mg : Str → Option Value} {base : Heap} {kt cs : List Addr} {C fI : Addr} {fd : FuncData} (T : Txt K w kt cs mg) (hC : clsA K "TooMany" = some C) (r : ClX.CRead K (cs.getD 0 0) (.type "type")) (vV : PySem.W.findCls K (.ref (cs.getD 0 0)) (.type "type") "__init__" = some (.val (.builtin "ValueError.__init__"))) (F : Fun K "__init__" "TooMany.__init__" (clsM 8 0) fI fd) (O : OexC K C) : FnOk P w K mg base CX0 1 fI fd ["self", "found"] (G.spI C (Str.ofString "found")) :=
  G.ok_init (m := Str.ofString "more than there may be") F sci_TooMany O (T.fld.xn "TooMany" "found" C (by decide) hC).2 (fun cdv A outer s H E => pss_cons (ps_expr (G.pe_teinit (by rfl) T.m_TableError r vV (pa_cons (pv 0) (pa_cons pe_str pa_nil)))) (pss_one (ps_ost (pv 0) (pv 1))))
theorem sc__wall : FnScope ["k"] ["k"] (defScope s__wall) := ⟨rfl, rfl, rfl, by decide +kernel, rfl, by decide +kernel, by decide +kernel⟩
theorem ok__wall {P : Program} {w : World} {K : PySem.W.Frag} {mg : Str → Option Value} {base : Heap} {kt cs : List Addr} (T : Txt K w kt cs mg) (F : G.DefAt K mg "_wall" "_wall" s__wall ["k"]) : Cal P w K mg base "_wall" 1 ["k"] (spP K F__wall) := by
  have nd := sc__wall.nd
  exact okd_P (body := B__wall) F sc__wall rfl rfl (fun f cdv A outer s H EX hr => ⟨_, (pss_one (ps_while G.passes_cx (pt_val pe_bl) (pss_one ps_pass))),
    (ss_while (st_b se_bl) ss_nx)⟩)
theorem sc_is_made_of : FnScope ["text", "some", "sign"] ["text", "some"] (defScope s_is_made_of) := ⟨rfl, rfl, rfl, by decide +kernel, rfl, by decide +kernel, by decide +kernel⟩
theorem ok_is_made_of {P : Program} {w : World} {K : PySem.W.Frag} {mg : Str → Option Value} {base : Heap} {kt cs : List Addr} (T : Txt K w kt cs mg) (F : G.DefAt K mg "is_made_of" "is_made_of" s_is_made_of ["text", "some"]) : Cal P w K mg base "is_made_of" 1 ["text", "some"] (spP K F_is_made_of) := by
  have nd := sc_is_made_of.nd
  exact okd_P (body := B_is_made_of) F sc_is_made_of rfl rfl (fun f cdv A outer s H EX hr => ⟨_, (pss_one (ps_ret (pe_callB (G.k_all K rfl rfl) (by rfl) T.b_all bt_all (pa_cons (pe_lc (own := [("sign", 2)]) rfl nd (G.k_it K rfl (pv 0)) (blkOk_by (N := ["text", "some", "sign"]) (sc := defScope s_is_made_of) (by decide +kernel)) (fun _ _ _ _ _ => (pg_name (i := 2) nd rfl (by first | exact Or.inl rfl | exact Or.inr rfl))) (fun _ _ _ _ _ => pts_nil) (fun _ _ _ _ _ => (pe_cmpR (k_in K (u65 hr)) (pv 2) (pv 1) (by rfl)))) pa_nil)))),
    (ss_ret (se_cb ca_all (sa_cons (se_lc (si_u se_var) tg_name st_yes (se_op bs_in se_var se_var)) sa_nil)))⟩)
theorem sc_Grammar_heads_b : FnScope ["self", "head", "body"] ["self"] (defScope (clsM 30 3)) := ⟨rfl, rfl, rfl, by decide +kernel, rfl, by decide +kernel, by decide +kernel⟩
theorem ok_Grammar_heads_b {P : Program} {w : World} {K : PySem.W.Frag} {mg : Str → Option Value} {base : Heap} {kt cs : List Addr} {dv : List V} {f : Addr} {fd : FuncData} (T : Txt K w kt cs mg) (F : FunD K "heads" "Grammar.heads" (defArgs (clsM 30 3)) (defBody (clsM 30 3)) (defScope (clsM 30 3)) dv [] f fd) : FnOk P w K mg base (L2.CX P w) 1 f fd ["self"] (spB K F_Grammar_heads_b) := by
  have nd := sc_Grammar_heads_b.nd
  exact okfd_B (body := B_Grammar_heads_b) F sc_Grammar_heads_b rfl rfl (fun cdv A outer s H EX hr => ⟨_, (pss_one (ps_ret (k_sortSet K rfl (by rfl) T.b_sorted (by rfl) T.b_set (pe_lc (own := [("head", 1), ("body", 2)]) rfl nd (G.k_it K rfl (G.k_at K (pv 0))) (blkOk_by (N := ["self", "head", "body"]) (sc := defScope (clsM 30 3)) (by decide +kernel)) (fun _ _ _ _ _ => (G.k_tup K rfl rfl (pgs_cons (pg_name (i := 1) nd rfl (by first | exact Or.inl rfl | exact Or.inr rfl)) (pgs_cons (pg_name (i := 2) nd rfl (by first | exact Or.inl rfl | exact Or.inr rfl)) pgs_nil)))) (fun _ _ _ _ _ => pts_nil) (fun _ _ _ _ _ => (pv 1)))))),
    (ss_ret (se_sortSet (se_lc (si_u (se_at T.fld se_var)) (tg_tup (tgs_cons tg_name (tgs_cons tg_name tgs_nil))) st_yes se_var)))⟩)
theorem sc_parted_words : FnScope ["words", "found", "word"] ["words"] (defScope s_parted_words) := ⟨rfl, rfl, rfl, by decide +kernel, rfl, by decide +kernel, by decide +kernel⟩
theorem ok_parted_words {P : Program} {w : World} {K : PySem.W.Frag} {mg : Str → Option Value} {base : Heap} {kt cs : List Addr} (T : Txt K w kt cs mg) (F : G.DefAt K mg "parted_words" "parted_words" s_parted_words ["words"]) : Cal P w K mg base "parted_words" 1 ["words"] (spP K F_parted_words) := by
  have nd := sc_parted_words.nd
  exact okd_P (body := B_parted_words) F sc_parted_words rfl rfl (fun f cdv A outer s H EX hr => ⟨_, (pss_cons (ps_set (i := 1) nd rfl (Or.inl rfl) (pe_lst (pa_cons (pe_lst pa_nil) pa_nil)))
      (pss_cons (ps_for G.passes_cx rfl (G.k_it K rfl (pv 0)) (pg_name (i := 2) nd rfl (Or.inl rfl)) (pss_one (ps_if (pt_cmpR (G.k_eq K rfl hr.units) (pv 2) pe_str (nomark _)) (pss_one (ps_expr (G.k_bm K rfl PySem.F.plainAttrs_list PySem.F.slot_list_append PySem.F.type_list_append mt_append (pv 1) (pa_cons (pe_lst pa_nil) pa_nil)))) (pss_one (ps_expr (G.k_bm K rfl PySem.F.plainAttrs_list PySem.F.slot_list_append PySem.F.type_list_append mt_append (pe_ix (k_ix K (u65 hr)) (pv 1) (pe_un un_neg pe_int) (fun _ _ => rfl)) (pa_cons (pv 2) pa_nil)))))))
      (pss_one (ps_ret (pv 1))))),
    (ss_seq (ss_asg (se_lstN (sa_cons (se_lstA sa_nil) sa_nil)) tg_name)
      (ss_seq (ss_for (si_u se_var) tg_name (ss_if (st_test (se_op bs_eq se_var se_str)) (ss_drop (se_app se_var (se_lstA sa_nil))) (ss_drop (se_app (se_ix se_var (se_un us_neg se_int)) se_var))))
      (ss_ret (se_fzN se_var))))⟩)
theorem sc_body_text : FnScope ["body"] ["body"] (defScope s_body_text) := ⟨rfl, rfl, rfl, by decide +kernel, rfl, by decide +kernel, by decide +kernel⟩
theorem ok_body_text {P : Program} {w : World} {K : PySem.W.Frag} {mg : Str → Option Value} {base : Heap} {kt cs : List Addr} (T : Txt K w kt cs mg) (F : G.DefAt K mg "body_text" "body_text" s_body_text ["body"]) : Cal P w K mg base "body_text" 1 ["body"] (spP K F_body_text) := by
  have nd := sc_body_text.nd
  exact okd_P (body := B_body_text) F sc_body_text rfl rfl (fun f cdv A outer s H EX hr => ⟨_, (pss_cons (ps_if (pt_cmpR (G.k_eq K rfl hr.units) (pv 0) (pe_tup pa_nil) (nomark _)) (pss_one (ps_ret pe_str)) pss_nil)
      (pss_one (ps_ret (G.k_join K rfl pe_str (pv 0))))),
    (ss_seq (ss_if (st_test (se_op bs_eq se_var (se_tup sa_nil))) (ss_ret se_str) ss_nx)
      (ss_ret (se_m1 bs_join se_str se_var)))⟩)
theorem sc__law_cell : FnScope ["_law_script", "_law_k"] ["_law_script", "_law_k"] (defScope s__law_cell) := ⟨rfl, rfl, rfl, by decide +kernel, rfl, by decide +kernel, by decide +kernel⟩
theorem ok__law_cell {P : Program} {w : World} {K : PySem.W.Frag} {mg : Str → Option Value} {base : Heap} {kt cs : List Addr} (T : Txt K w kt cs mg) (F : G.DefAt K mg "_law_cell" "_law_cell" s__law_cell ["_law_script", "_law_k"]) : Cal P w K mg base "_law_cell" 1 ["_law_script", "_law_k"] (spP K F__law_cell) := by
  have nd := sc__law_cell.nd
  exact okd_P (body := B__law_cell) F sc__law_cell rfl rfl (fun f cdv A outer s H EX hr => ⟨_, (pss_cons (ps_if (pt_cmpR G.op_uLt (pv 1) (pe_callB (G.k_len K) (by rfl) T.b_len bt_len (pa_cons (pv 0) pa_nil)) (nomark _)) (pss_one (ps_ret (pe_ix (k_ix K (u65 hr)) (pv 0) (pv 1) (fun _ _ => rfl)))) pss_nil)
      (pss_one (ps_ret pe_int))),
    (ss_seq (ss_if (st_test (se_op bs_lt se_var (se_cb ca_len (sa_cons se_var sa_nil)))) (ss_ret (se_ix se_var se_var)) ss_nx)
      (ss_ret se_int))⟩)
theorem sc__law_stir : FnScope ["_law_cell_here", "_law_k", "_law_number"] ["_law_cell_here", "_law_k"] (defScope s__law_stir) := ⟨rfl, rfl, rfl, by decide +kernel, rfl, by decide +kernel, by decide +kernel⟩
theorem ok__law_stir {P : Program} {w : World} {K : PySem.W.Frag} {mg : Str → Option Value} {base : Heap} {kt cs : List Addr} (T : Txt K w kt cs mg) (F : G.DefAt K mg "_law_stir" "_law_stir" s__law_stir ["_law_cell_here", "_law_k"]) : Cal P w K mg base "_law_stir" 1 ["_law_cell_here", "_law_k"] (spP K F__law_stir) := by
  have nd := sc__law_stir.nd
  exact okd_P (body := B__law_stir) F sc__law_stir rfl rfl (fun f cdv A outer s H EX hr => ⟨_, (pss_cons (ps_set (i := 2) nd rfl (Or.inl rfl) (pe_op op_modN (pe_op (G.k_add K) (pe_op (G.k_add K) (pe_op G.op_uMul (pe_op op_modN (pv 0) pe_int) pe_int) (pe_op G.op_uMul pe_int (pv 1))) pe_int) pe_int))
      (pss_cons (ps_set (i := 2) nd rfl (Or.inl rfl) (pe_op op_modN (pe_op G.op_uMul (pv 2) (pv 2)) pe_int))
      (pss_one (ps_ret (pe_op op_modN (pe_op (G.k_add K) (pe_op (G.k_add K) (pe_op G.op_uMul (pv 2) (pv 2)) (pe_op G.op_uMul pe_int (pv 2))) pe_int) pe_int))))),
    (ss_seq (ss_asg (se_op bs_mod (se_op bs_add (se_op bs_add (se_op bs_mul (se_op bs_mod se_var se_int) se_int) (se_op bs_mul se_int se_var)) se_int) se_int) tg_name)
      (ss_seq (ss_asg (se_op bs_mod (se_op bs_mul se_var se_var) se_int) tg_name)
      (ss_ret (se_op bs_mod (se_op bs_add (se_op bs_add (se_op bs_mul se_var se_var) (se_op bs_mul se_int se_var)) se_int) se_int))))⟩)
theorem sc__law_heads : FnScope ["_law_cell_here", "_law_many_here", "_law_letters", "_law_tail", "_law_k"] ["_law_cell_here", "_law_many_here"] (defScope s__law_heads) := ⟨rfl, rfl, rfl, by decide +kernel, rfl, by decide +kernel, by decide +kernel⟩
theorem ok__law_heads {P : Program} {w : World} {K : PySem.W.Frag} {mg : Str → Option Value} {base : Heap} {kt cs : List Addr} (T : Txt K w kt cs mg) (F : G.DefAt K mg "_law_heads" "_law_heads" s__law_heads ["_law_cell_here", "_law_many_here"]) : Cal P w K mg base "_law_heads" 1 ["_law_cell_here", "_law_many_here"] (spP K F__law_heads) := by
  have nd := sc__law_heads.nd
  exact okd_P (body := B__law_heads) F sc__law_heads rfl rfl (fun f cdv A outer s H EX hr => ⟨_, (pss_cons (ps_set (i := 2) nd rfl (Or.inr rfl) pe_str)
      (pss_cons (ps_set (i := 3) nd rfl (Or.inr rfl) (pe_ix (k_ix K (u65 hr)) (pe_lst (pa_cons pe_str (pa_cons pe_str (pa_cons pe_str (pa_cons pe_str (pa_cons pe_str (pa_cons pe_str pa_nil))))))) (pe_op op_modN (pe_op op_fdivW (pv 0) pe_int) pe_int) (fun _ _ => rfl)))
      (pss_one (ps_ret (pe_lc (own := [("_law_k", 4)]) rfl nd (pi_range1 (by rfl) T.b_range (pa_cons (pv 1) pa_nil)) (blkOk_by (N := ["_law_cell_here", "_law_many_here", "_law_letters", "_law_tail", "_law_k"]) (sc := defScope s__law_heads) (by decide +kernel)) (fun _ _ _ _ _ => (pg_name (i := 4) nd rfl (by first | exact Or.inl rfl | exact Or.inr rfl))) (fun _ _ _ _ _ => pts_nil) (fun _ _ _ _ _ => (pe_op (G.k_add K) (pe_ix (k_ix K (u65 hr)) (pv 2) (pe_op op_modN (pe_op (G.k_add K) (pv 0) (pe_op G.op_uMul pe_int (pv 4))) pe_int) (fun _ _ => rfl)) (pv 3)))))))),
    (ss_seq (ss_asg se_str tg_name)
      (ss_seq (ss_asg (se_ix (se_lst (sa_cons se_str (sa_cons se_str (sa_cons se_str (sa_cons se_str (sa_cons se_str (sa_cons se_str sa_nil))))))) (se_op bs_mod (se_op bs_div se_var se_int) se_int)) tg_name)
      (ss_ret (se_lc (si_rng1 (sa_cons se_var sa_nil)) tg_name st_yes (se_op bs_add (se_ix se_var (se_op bs_mod (se_op bs_add se_var (se_op bs_mul se_int se_var)) se_int)) se_var)))))⟩)
theorem sc__law_signs : FnScope ["_law_cell_here", "_law_many_here", "_law_some", "_law_k"] ["_law_cell_here", "_law_many_here"] (defScope s__law_signs) := ⟨rfl, rfl, rfl, by decide +kernel, rfl, by decide +kernel, by decide +kernel⟩
theorem ok__law_signs {P : Program} {w : World} {K : PySem.W.Frag} {mg : Str → Option Value} {base : Heap} {kt cs : List Addr} (T : Txt K w kt cs mg) (F : G.DefAt K mg "_law_signs" "_law_signs" s__law_signs ["_law_cell_here", "_law_many_here"]) : Cal P w K mg base "_law_signs" 1 ["_law_cell_here", "_law_many_here"] (spP K F__law_signs) := by
  have nd := sc__law_signs.nd
  exact okd_P (body := B__law_signs) F sc__law_signs rfl rfl (fun f cdv A outer s H EX hr => ⟨_, (pss_cons (ps_set (i := 2) nd rfl (Or.inr rfl) (pe_lst (pa_cons pe_str (pa_cons pe_str (pa_cons pe_str (pa_cons pe_str (pa_cons pe_str (pa_cons pe_str (pa_cons pe_str (pa_cons pe_str (pa_cons pe_str (pa_cons pe_str (pa_cons pe_str (pa_cons pe_str (pa_cons pe_str (pa_cons pe_str (pa_cons pe_str (pa_cons pe_str (pa_cons pe_str (pa_cons pe_str pa_nil))))))))))))))))))))
      (pss_one (ps_ret (pe_lc (own := [("_law_k", 3)]) rfl nd (pi_range1 (by rfl) T.b_range (pa_cons (pv 1) pa_nil)) (blkOk_by (N := ["_law_cell_here", "_law_many_here", "_law_some", "_law_k"]) (sc := defScope s__law_signs) (by decide +kernel)) (fun _ _ _ _ _ => (pg_name (i := 3) nd rfl (by first | exact Or.inl rfl | exact Or.inr rfl))) (fun _ _ _ _ _ => pts_nil) (fun _ _ _ _ _ => (pe_ix (k_ix K (u65 hr)) (pv 2) (pe_op op_modN (pe_op (G.k_add K) (pv 0) (pv 3)) pe_int) (fun _ _ => rfl))))))),
    (ss_seq (ss_asg (se_lst (sa_cons se_str (sa_cons se_str (sa_cons se_str (sa_cons se_str (sa_cons se_str (sa_cons se_str (sa_cons se_str (sa_cons se_str (sa_cons se_str (sa_cons se_str (sa_cons se_str (sa_cons se_str (sa_cons se_str (sa_cons se_str (sa_cons se_str (sa_cons se_str (sa_cons se_str (sa_cons se_str sa_nil))))))))))))))))))) tg_name)
      (ss_ret (se_lc (si_rng1 (sa_cons se_var sa_nil)) tg_name st_yes (se_ix se_var (se_op bs_mod (se_op bs_add se_var se_var) se_int)))))⟩)
theorem sc__law_shape : FnScope ["_law_number", "_law_some"] ["_law_number"] (defScope s__law_shape) := ⟨rfl, rfl, rfl, by decide +kernel, rfl, by decide +kernel, by decide +kernel⟩
theorem ok__law_shape {P : Program} {w : World} {K : PySem.W.Frag} {mg : Str → Option Value} {base : Heap} {kt cs : List Addr} (T : Txt K w kt cs mg) (F : G.DefAt K mg "_law_shape" "_law_shape" s__law_shape ["_law_number"]) : Cal P w K mg base "_law_shape" 1 ["_law_number"] (spP K F__law_shape) := by
  have nd := sc__law_shape.nd
  exact okd_P (body := B__law_shape) F sc__law_shape rfl rfl (fun f cdv A outer s H EX hr => ⟨_, (pss_cons (ps_set (i := 1) nd rfl (Or.inl rfl) (pe_lst (pa_cons (pe_lst (pa_cons (pe_tup (pa_cons pe_int (pa_cons (pe_tup (pa_cons pe_int (pa_cons pe_int (pa_cons pe_int pa_nil)))) pa_nil))) (pa_cons (pe_tup (pa_cons pe_int (pa_cons (pe_tup (pa_cons pe_int pa_nil)) pa_nil))) (pa_cons (pe_tup (pa_cons pe_int (pa_cons (pe_tup (pa_cons pe_int (pa_cons pe_int (pa_cons pe_int pa_nil)))) pa_nil))) (pa_cons (pe_tup (pa_cons pe_int (pa_cons (pe_tup (pa_cons pe_int pa_nil)) pa_nil))) (pa_cons (pe_tup (pa_cons pe_int (pa_cons (pe_tup (pa_cons pe_int (pa_cons pe_int (pa_cons pe_int pa_nil)))) pa_nil))) (pa_cons (pe_tup (pa_cons pe_int (pa_cons (pe_tup (pa_cons pe_int pa_nil)) pa_nil))) pa_nil))))))) pa_nil)))
      (pss_cons (ps_expr (G.k_bm K rfl PySem.F.plainAttrs_list PySem.F.slot_list_append PySem.F.type_list_append mt_append (pv 1) (pa_cons (pe_lst (pa_cons (pe_tup (pa_cons pe_int (pa_cons (pe_tup (pa_cons pe_int (pa_cons pe_int (pa_cons pe_int pa_nil)))) pa_nil))) (pa_cons (pe_tup (pa_cons pe_int (pa_cons (pe_tup (pa_cons pe_int pa_nil)) pa_nil))) pa_nil))) pa_nil)))
      (pss_cons (ps_expr (G.k_bm K rfl PySem.F.plainAttrs_list PySem.F.slot_list_append PySem.F.type_list_append mt_append (pv 1) (pa_cons (pe_lst (pa_cons (pe_tup (pa_cons pe_int (pa_cons (pe_tup (pa_cons pe_int (pa_cons pe_int (pa_cons pe_int pa_nil)))) pa_nil))) (pa_cons (pe_tup (pa_cons pe_int (pa_cons (pe_tup pa_nil) pa_nil))) pa_nil))) pa_nil)))
      (pss_cons (ps_expr (G.k_bm K rfl PySem.F.plainAttrs_list PySem.F.slot_list_append PySem.F.type_list_append mt_append (pv 1) (pa_cons (pe_lst (pa_cons (pe_tup (pa_cons pe_int (pa_cons (pe_tup (pa_cons pe_int (pa_cons pe_int pa_nil))) pa_nil))) (pa_cons (pe_tup (pa_cons pe_int (pa_cons (pe_tup pa_nil) pa_nil))) (pa_cons (pe_tup (pa_cons pe_int (pa_cons (pe_tup (pa_cons pe_int (pa_cons pe_int pa_nil))) pa_nil))) (pa_cons (pe_tup (pa_cons pe_int (pa_cons (pe_tup (pa_cons pe_int (pa_cons pe_int (pa_cons pe_int pa_nil)))) pa_nil))) pa_nil))))) pa_nil)))
      (pss_cons (ps_expr (G.k_bm K rfl PySem.F.plainAttrs_list PySem.F.slot_list_append PySem.F.type_list_append mt_append (pv 1) (pa_cons (pe_lst (pa_cons (pe_tup (pa_cons pe_int (pa_cons (pe_tup (pa_cons pe_int (pa_cons pe_int (pa_cons pe_int pa_nil)))) pa_nil))) (pa_cons (pe_tup (pa_cons pe_int (pa_cons (pe_tup (pa_cons pe_int (pa_cons pe_int (pa_cons pe_int pa_nil)))) pa_nil))) (pa_cons (pe_tup (pa_cons pe_int (pa_cons (pe_tup (pa_cons pe_int (pa_cons pe_int (pa_cons pe_int pa_nil)))) pa_nil))) (pa_cons (pe_tup (pa_cons pe_int (pa_cons (pe_tup (pa_cons pe_int (pa_cons pe_int (pa_cons pe_int pa_nil)))) pa_nil))) (pa_cons (pe_tup (pa_cons pe_int (pa_cons (pe_tup (pa_cons pe_int pa_nil)) pa_nil))) (pa_cons (pe_tup (pa_cons pe_int (pa_cons (pe_tup (pa_cons pe_int pa_nil)) pa_nil))) pa_nil))))))) pa_nil)))
      (pss_cons (ps_expr (G.k_bm K rfl PySem.F.plainAttrs_list PySem.F.slot_list_append PySem.F.type_list_append mt_append (pv 1) (pa_cons (pe_lst (pa_cons (pe_tup (pa_cons pe_int (pa_cons (pe_tup (pa_cons pe_int (pa_cons pe_int pa_nil))) pa_nil))) (pa_cons (pe_tup (pa_cons pe_int (pa_cons (pe_tup (pa_cons pe_int pa_nil)) pa_nil))) (pa_cons (pe_tup (pa_cons pe_int (pa_cons (pe_tup pa_nil) pa_nil))) (pa_cons (pe_tup (pa_cons pe_int (pa_cons (pe_tup (pa_cons pe_int pa_nil)) pa_nil))) (pa_cons (pe_tup (pa_cons pe_int (pa_cons (pe_tup pa_nil) pa_nil))) pa_nil)))))) pa_nil)))
      (pss_cons (ps_expr (G.k_bm K rfl PySem.F.plainAttrs_list PySem.F.slot_list_append PySem.F.type_list_append mt_append (pv 1) (pa_cons (pe_lst (pa_cons (pe_tup (pa_cons pe_int (pa_cons (pe_tup (pa_cons pe_int (pa_cons pe_int pa_nil))) pa_nil))) (pa_cons (pe_tup (pa_cons pe_int (pa_cons (pe_tup (pa_cons pe_int pa_nil)) pa_nil))) (pa_cons (pe_tup (pa_cons pe_int (pa_cons (pe_tup (pa_cons pe_int pa_nil)) pa_nil))) pa_nil)))) pa_nil)))
      (pss_cons (ps_expr (G.k_bm K rfl PySem.F.plainAttrs_list PySem.F.slot_list_append PySem.F.type_list_append mt_append (pv 1) (pa_cons (pe_lst (pa_cons (pe_tup (pa_cons pe_int (pa_cons (pe_tup (pa_cons pe_int (pa_cons pe_int (pa_cons pe_int pa_nil)))) pa_nil))) (pa_cons (pe_tup (pa_cons pe_int (pa_cons (pe_tup (pa_cons pe_int (pa_cons pe_int pa_nil))) pa_nil))) (pa_cons (pe_tup (pa_cons pe_int (pa_cons (pe_tup (pa_cons pe_int pa_nil)) pa_nil))) pa_nil)))) pa_nil)))
      (pss_cons (ps_expr (G.k_bm K rfl PySem.F.plainAttrs_list PySem.F.slot_list_append PySem.F.type_list_append mt_append (pv 1) (pa_cons (pe_lst (pa_cons (pe_tup (pa_cons pe_int (pa_cons (pe_tup (pa_cons pe_int (pa_cons pe_int pa_nil))) pa_nil))) (pa_cons (pe_tup (pa_cons pe_int (pa_cons (pe_tup (pa_cons pe_int (pa_cons pe_int pa_nil))) pa_nil))) (pa_cons (pe_tup (pa_cons pe_int (pa_cons (pe_tup pa_nil) pa_nil))) pa_nil)))) pa_nil)))
      (pss_cons (ps_expr (G.k_bm K rfl PySem.F.plainAttrs_list PySem.F.slot_list_append PySem.F.type_list_append mt_append (pv 1) (pa_cons (pe_lst (pa_cons (pe_tup (pa_cons pe_int (pa_cons (pe_tup (pa_cons pe_int (pa_cons pe_int pa_nil))) pa_nil))) (pa_cons (pe_tup (pa_cons pe_int (pa_cons (pe_tup (pa_cons pe_int (pa_cons pe_int pa_nil))) pa_nil))) (pa_cons (pe_tup (pa_cons pe_int (pa_cons (pe_tup (pa_cons pe_int pa_nil)) pa_nil))) (pa_cons (pe_tup (pa_cons pe_int (pa_cons (pe_tup (pa_cons pe_int pa_nil)) pa_nil))) pa_nil))))) pa_nil)))
      (pss_one (ps_ret (pe_ix (k_ix K (u65 hr)) (pv 1) (pe_op op_modN (pv 0) pe_int) (fun _ _ => rfl)))))))))))))),
    (ss_seq (ss_asg (se_lstA (sa_cons (se_lst (sa_cons (se_tup (sa_cons se_int (sa_cons (se_tup (sa_cons se_int (sa_cons se_int (sa_cons se_int sa_nil)))) sa_nil))) (sa_cons (se_tup (sa_cons se_int (sa_cons (se_tup (sa_cons se_int sa_nil)) sa_nil))) (sa_cons (se_tup (sa_cons se_int (sa_cons (se_tup (sa_cons se_int (sa_cons se_int (sa_cons se_int sa_nil)))) sa_nil))) (sa_cons (se_tup (sa_cons se_int (sa_cons (se_tup (sa_cons se_int sa_nil)) sa_nil))) (sa_cons (se_tup (sa_cons se_int (sa_cons (se_tup (sa_cons se_int (sa_cons se_int (sa_cons se_int sa_nil)))) sa_nil))) (sa_cons (se_tup (sa_cons se_int (sa_cons (se_tup (sa_cons se_int sa_nil)) sa_nil))) sa_nil))))))) sa_nil)) tg_name)
      (ss_seq (ss_drop (se_app se_var (se_lst (sa_cons (se_tup (sa_cons se_int (sa_cons (se_tup (sa_cons se_int (sa_cons se_int (sa_cons se_int sa_nil)))) sa_nil))) (sa_cons (se_tup (sa_cons se_int (sa_cons (se_tup (sa_cons se_int sa_nil)) sa_nil))) sa_nil)))))
      (ss_seq (ss_drop (se_app se_var (se_lst (sa_cons (se_tup (sa_cons se_int (sa_cons (se_tup (sa_cons se_int (sa_cons se_int (sa_cons se_int sa_nil)))) sa_nil))) (sa_cons (se_tup (sa_cons se_int (sa_cons (se_tup sa_nil) sa_nil))) sa_nil)))))
      (ss_seq (ss_drop (se_app se_var (se_lst (sa_cons (se_tup (sa_cons se_int (sa_cons (se_tup (sa_cons se_int (sa_cons se_int sa_nil))) sa_nil))) (sa_cons (se_tup (sa_cons se_int (sa_cons (se_tup sa_nil) sa_nil))) (sa_cons (se_tup (sa_cons se_int (sa_cons (se_tup (sa_cons se_int (sa_cons se_int sa_nil))) sa_nil))) (sa_cons (se_tup (sa_cons se_int (sa_cons (se_tup (sa_cons se_int (sa_cons se_int (sa_cons se_int sa_nil)))) sa_nil))) sa_nil)))))))
      (ss_seq (ss_drop (se_app se_var (se_lst (sa_cons (se_tup (sa_cons se_int (sa_cons (se_tup (sa_cons se_int (sa_cons se_int (sa_cons se_int sa_nil)))) sa_nil))) (sa_cons (se_tup (sa_cons se_int (sa_cons (se_tup (sa_cons se_int (sa_cons se_int (sa_cons se_int sa_nil)))) sa_nil))) (sa_cons (se_tup (sa_cons se_int (sa_cons (se_tup (sa_cons se_int (sa_cons se_int (sa_cons se_int sa_nil)))) sa_nil))) (sa_cons (se_tup (sa_cons se_int (sa_cons (se_tup (sa_cons se_int (sa_cons se_int (sa_cons se_int sa_nil)))) sa_nil))) (sa_cons (se_tup (sa_cons se_int (sa_cons (se_tup (sa_cons se_int sa_nil)) sa_nil))) (sa_cons (se_tup (sa_cons se_int (sa_cons (se_tup (sa_cons se_int sa_nil)) sa_nil))) sa_nil)))))))))
      (ss_seq (ss_drop (se_app se_var (se_lst (sa_cons (se_tup (sa_cons se_int (sa_cons (se_tup (sa_cons se_int (sa_cons se_int sa_nil))) sa_nil))) (sa_cons (se_tup (sa_cons se_int (sa_cons (se_tup (sa_cons se_int sa_nil)) sa_nil))) (sa_cons (se_tup (sa_cons se_int (sa_cons (se_tup sa_nil) sa_nil))) (sa_cons (se_tup (sa_cons se_int (sa_cons (se_tup (sa_cons se_int sa_nil)) sa_nil))) (sa_cons (se_tup (sa_cons se_int (sa_cons (se_tup sa_nil) sa_nil))) sa_nil))))))))
      (ss_seq (ss_drop (se_app se_var (se_lst (sa_cons (se_tup (sa_cons se_int (sa_cons (se_tup (sa_cons se_int (sa_cons se_int sa_nil))) sa_nil))) (sa_cons (se_tup (sa_cons se_int (sa_cons (se_tup (sa_cons se_int sa_nil)) sa_nil))) (sa_cons (se_tup (sa_cons se_int (sa_cons (se_tup (sa_cons se_int sa_nil)) sa_nil))) sa_nil))))))
      (ss_seq (ss_drop (se_app se_var (se_lst (sa_cons (se_tup (sa_cons se_int (sa_cons (se_tup (sa_cons se_int (sa_cons se_int (sa_cons se_int sa_nil)))) sa_nil))) (sa_cons (se_tup (sa_cons se_int (sa_cons (se_tup (sa_cons se_int (sa_cons se_int sa_nil))) sa_nil))) (sa_cons (se_tup (sa_cons se_int (sa_cons (se_tup (sa_cons se_int sa_nil)) sa_nil))) sa_nil))))))
      (ss_seq (ss_drop (se_app se_var (se_lst (sa_cons (se_tup (sa_cons se_int (sa_cons (se_tup (sa_cons se_int (sa_cons se_int sa_nil))) sa_nil))) (sa_cons (se_tup (sa_cons se_int (sa_cons (se_tup (sa_cons se_int (sa_cons se_int sa_nil))) sa_nil))) (sa_cons (se_tup (sa_cons se_int (sa_cons (se_tup sa_nil) sa_nil))) sa_nil))))))
      (ss_seq (ss_drop (se_app se_var (se_lst (sa_cons (se_tup (sa_cons se_int (sa_cons (se_tup (sa_cons se_int (sa_cons se_int sa_nil))) sa_nil))) (sa_cons (se_tup (sa_cons se_int (sa_cons (se_tup (sa_cons se_int (sa_cons se_int sa_nil))) sa_nil))) (sa_cons (se_tup (sa_cons se_int (sa_cons (se_tup (sa_cons se_int sa_nil)) sa_nil))) (sa_cons (se_tup (sa_cons se_int (sa_cons (se_tup (sa_cons se_int sa_nil)) sa_nil))) sa_nil)))))))
      (ss_ret (se_ix se_var (se_op bs_mod se_var se_int)))))))))))))⟩)
theorem sc__law_symbol : FnScope ["_law_number", "_law_heads_here", "_law_signs_here"] ["_law_number", "_law_heads_here", "_law_signs_here"] (defScope s__law_symbol) := ⟨rfl, rfl, rfl, by decide +kernel, rfl, by decide +kernel, by decide +kernel⟩
theorem ok__law_symbol {P : Program} {w : World} {K : PySem.W.Frag} {mg : Str → Option Value} {base : Heap} {kt cs : List Addr} (T : Txt K w kt cs mg) (F : G.DefAt K mg "_law_symbol" "_law_symbol" s__law_symbol ["_law_number", "_law_heads_here", "_law_signs_here"]) : Cal P w K mg base "_law_symbol" 1 ["_law_number", "_law_heads_here", "_law_signs_here"] (spP K F__law_symbol) := by
  have nd := sc__law_symbol.nd
  exact okd_P (body := B__law_symbol) F sc__law_symbol rfl rfl (fun f cdv A outer s H EX hr => ⟨_, (pss_cons (ps_if (pt_cmpR G.op_uGe (pv 0) pe_int (nomark _)) (pss_one (ps_ret (pe_ix (k_ix K (u65 hr)) (pv 2) (pe_op op_sub (pv 0) pe_int) (fun _ _ => rfl)))) pss_nil)
      (pss_one (ps_ret (pe_ix (k_ix K (u65 hr)) (pv 1) (pv 0) (fun _ _ => rfl))))),
    (ss_seq (ss_if (st_test (se_op bs_ge se_var se_int)) (ss_ret (se_ix se_var (se_op bs_sub se_var se_int))) ss_nx)
      (ss_ret (se_ix se_var se_var)))⟩)
theorem sc__law_many : FnScope ["_law_rules_here", "_law_many_here", "_law_found", "_law_k", "_law_rule", "_law_j"] ["_law_rules_here", "_law_many_here"] (defScope s__law_many) := ⟨rfl, rfl, rfl, by decide +kernel, rfl, by decide +kernel, by decide +kernel⟩
theorem ok__law_many {P : Program} {w : World} {K : PySem.W.Frag} {mg : Str → Option Value} {base : Heap} {kt cs : List Addr} (T : Txt K w kt cs mg) (F : G.DefAt K mg "_law_many" "_law_many" s__law_many ["_law_rules_here", "_law_many_here"]) : Cal P w K mg base "_law_many" 1 ["_law_rules_here", "_law_many_here"] (spP K F__law_many) := by
  have nd := sc__law_many.nd
  exact okd_P (body := B__law_many) F sc__law_many rfl rfl (fun f cdv A outer s H EX hr => ⟨_, (pss_cons (ps_set (i := 2) nd rfl (Or.inl rfl) (pe_callTy (G.k_list K) (by rfl) T.b_list bt_list (pa_cons (pv 0) pa_nil)))
      (pss_cons (ps_for G.passes_cx rfl (pi_range1 (by rfl) T.b_range (pa_cons pe_int pa_nil)) (pg_name (i := 3) nd rfl (Or.inr rfl)) (pss_cons (ps_set (i := 4) nd rfl (Or.inl rfl) (pe_tup (pa_cons (pe_ix (k_ix K (u65 hr)) (pe_ix (k_ix K (u65 hr)) (pv 0) (pe_un un_neg pe_int) (fun _ _ => rfl)) pe_int (fun _ _ => rfl)) (pa_cons (pe_callTy (G.k_tuple K) (by rfl) T.b_tuple bt_tuple (pa_cons (pe_lc (own := [("_law_j", 5)]) rfl nd (pi_range1 (by rfl) T.b_range (pa_cons pe_int pa_nil)) (blkOk_by (N := ["_law_rules_here", "_law_many_here", "_law_found", "_law_k", "_law_rule", "_law_j"]) (sc := defScope s__law_many) (by decide +kernel)) (fun _ _ _ _ _ => (pg_name (i := 5) nd rfl (by first | exact Or.inl rfl | exact Or.inr rfl))) (fun _ _ _ _ _ => pts_nil) (fun _ _ _ _ _ => (pe_ix (k_ix K (u65 hr)) (pe_lst (pa_cons pe_str (pa_cons pe_str pa_nil))) (pe_op op_and (pe_op op_shr (pv 3) (pv 5)) pe_int) (fun _ _ => rfl)))) pa_nil)) pa_nil))))
      (pss_one (ps_if (PW.pt (pw_and (pt_cmpR (k_ni K (u65 hr)) (pv 4) (pv 2) (by rfl)) (pw_and1 (pt_cmpR G.op_uLt (pe_callB (G.k_len K) (by rfl) T.b_len bt_len (pa_cons (pv 2) pa_nil)) (pv 1) (nomark _))))) (pss_one (ps_expr (G.k_bm K rfl PySem.F.plainAttrs_list PySem.F.slot_list_append PySem.F.type_list_append mt_append (pv 2) (pa_cons (pv 4) pa_nil)))) pss_nil))))
      (pss_one (ps_ret (pv 2))))),
    (ss_seq (ss_asg (se_cbA cf_list (sa_cons se_var sa_nil)) tg_name)
      (ss_seq (ss_for (si_rng1 (sa_cons se_int sa_nil)) tg_name (ss_seq (ss_asg (se_tup (sa_cons (se_ix (se_ix se_var (se_un us_neg se_int)) se_int) (sa_cons (se_cb ca_tup (sa_cons (se_lc (si_rng1 (sa_cons se_int sa_nil)) tg_name st_yes (se_ix (se_lst (sa_cons se_str (sa_cons se_str sa_nil))) (se_op bs_and (se_op bs_shr se_var se_var) se_int))) sa_nil)) sa_nil))) tg_name)
      (ss_if (st_and (st_test (se_op bs_ni se_var se_var)) (st_test (se_op bs_lt (se_cb ca_len (sa_cons se_var sa_nil)) se_var))) (ss_drop (se_app se_var se_var)) ss_nx)))
      (ss_ret (se_fz se_var))))⟩)
theorem sc__law_body : FnScope ["_law_body_here"] ["_law_body_here"] (defScope s__law_body) := ⟨rfl, rfl, rfl, by decide +kernel, rfl, by decide +kernel, by decide +kernel⟩
theorem ok__law_body {P : Program} {w : World} {K : PySem.W.Frag} {mg : Str → Option Value} {base : Heap} {kt cs : List Addr} (T : Txt K w kt cs mg) (F : G.DefAt K mg "_law_body" "_law_body" s__law_body ["_law_body_here"]) : Cal P w K mg base "_law_body" 1 ["_law_body_here"] (spP K F__law_body) := by
  have nd := sc__law_body.nd
  exact okd_P (body := B__law_body) F sc__law_body rfl rfl (fun f cdv A outer s H EX hr => ⟨_, (pss_cons (ps_if (pt_cmpR (G.k_eq K rfl hr.units) (pe_callB (G.k_len K) (by rfl) T.b_len bt_len (pa_cons (pv 0) pa_nil)) pe_int (nomark _)) (pss_one (ps_ret pe_str)) pss_nil)
      (pss_one (ps_ret (G.k_join K rfl pe_str (pv 0))))),
    (ss_seq (ss_if (st_test (se_op bs_eq (se_cb ca_len (sa_cons se_var sa_nil)) se_int)) (ss_ret se_str) ss_nx)
      (ss_ret (se_m1 bs_join se_str se_var)))⟩)
theorem sc_is_sign : FnScope ["thing"] ["thing"] (defScope s_is_sign) := ⟨rfl, rfl, rfl, by decide +kernel, rfl, by decide +kernel, by decide +kernel⟩
theorem ok_is_sign {P : Program} {w : World} {K : PySem.W.Frag} {mg : Str → Option Value} {base : Heap} {kt cs : List Addr} (T : Txt K w kt cs mg) (F : G.DefAt K mg "is_sign" "is_sign" s_is_sign ["thing"]) (c_is_made_of : Cal P w K mg base "is_made_of" 1 ["text", "some"] (spP K F_is_made_of)) : Cal P w K mg base "is_sign" 2 ["thing"] (spP K F_is_sign) := by
  have nd := sc_is_sign.nd
  exact okd_P (body := B_is_sign) F sc_is_sign rfl rfl (fun f cdv A outer s H EX hr => ⟨_, (pss_cons (ps_if (PW.pt (pw_or (pt_not (pt_val (pe_callB (k_isi K) (by rfl) T.b_isinstance bt_isinstance (pa_cons (pv 0) (pa_cons (pe_bltn (v := .ty "str") (by rfl) T.b_str bt_str rfl) pa_nil))))) (pw_or1 (pt_not (pt_chain G.op_uLe G.op_uLe pe_int (pe_callB (G.k_len K) (by rfl) T.b_len bt_len (pa_cons (pv 0) pa_nil)) (G.pe_gl T.g_LONGEST)))))) (pss_one (ps_ret pe_bl)) pss_nil)
      (pss_one (ps_ret (k_cal K c_is_made_of hr (by decide) G.takes_cx (by rfl) (pa_cons (pv 0) (pa_cons (pe_op (G.k_add K) (pe_op (G.k_add K) (G.pe_gl T.g_SMALL) (G.pe_gl T.g_FIGURES)) (G.pe_gl T.g_OTHERS)) pa_nil)))))),
    (ss_seq (ss_if (st_or (st_not (st_b (se_cb (ca_isi T.isa) (sa_cons se_var (sa_cons se_ty sa_nil))))) (st_not (st_test (se_chain bs_le bs_le se_int (se_cb ca_len (sa_cons se_var sa_nil)) se_int)))) (ss_ret se_bl) ss_nx)
      (ss_ret (se_call (sa_cons se_var (sa_cons (se_op bs_add (se_op bs_add se_str se_str) se_str) sa_nil)))))⟩)
theorem sc_is_head : FnScope ["thing"] ["thing"] (defScope s_is_head) := ⟨rfl, rfl, rfl, by decide +kernel, rfl, by decide +kernel, by decide +kernel⟩
theorem ok_is_head {P : Program} {w : World} {K : PySem.W.Frag} {mg : Str → Option Value} {base : Heap} {kt cs : List Addr} (T : Txt K w kt cs mg) (F : G.DefAt K mg "is_head" "is_head" s_is_head ["thing"]) (c_is_made_of : Cal P w K mg base "is_made_of" 1 ["text", "some"] (spP K F_is_made_of)) : Cal P w K mg base "is_head" 2 ["thing"] (spP K F_is_head) := by
  have nd := sc_is_head.nd
  exact okd_P (body := B_is_head) F sc_is_head rfl rfl (fun f cdv A outer s H EX hr => ⟨_, (pss_cons (ps_if (PW.pt (pw_or (pt_not (pt_val (pe_callB (k_isi K) (by rfl) T.b_isinstance bt_isinstance (pa_cons (pv 0) (pa_cons (pe_bltn (v := .ty "str") (by rfl) T.b_str bt_str rfl) pa_nil))))) (pw_or1 (pt_not (pt_chain G.op_uLe G.op_uLe pe_int (pe_callB (G.k_len K) (by rfl) T.b_len bt_len (pa_cons (pv 0) pa_nil)) (G.pe_gl T.g_LONGEST)))))) (pss_one (ps_ret pe_bl)) pss_nil)
      (pss_one (ps_ret (pe_and (pe_cmpR (k_in K (u65 hr)) (pe_ix (k_ix K (u65 hr)) (pv 0) pe_int (fun _ _ => rfl)) (G.pe_gl T.g_GREAT) (by rfl)) (pe_one (k_cal K c_is_made_of hr (by decide) G.takes_cx (by rfl) (pa_cons (pe_slice (G.k_sl K) (pv 0) (po_some pe_int) po_none) (pa_cons (pe_op (G.k_add K) (G.pe_gl T.g_SMALL) (G.pe_gl T.g_FIGURES)) pa_nil)))))))),
    (ss_seq (ss_if (st_or (st_not (st_b (se_cb (ca_isi T.isa) (sa_cons se_var (sa_cons se_ty sa_nil))))) (st_not (st_test (se_chain bs_le bs_le se_int (se_cb ca_len (sa_cons se_var sa_nil)) se_int)))) (ss_ret se_bl) ss_nx)
      (ss_ret (se_andV (se_op bs_in (se_ix se_var se_int) se_str) (se_call (sa_cons (se_sl ss_slD se_var (so_some se_int) so_none) (sa_cons (se_op bs_add se_str se_str) sa_nil))))))⟩)
theorem sc_show_grammar : FnScope ["grammar", "rows", "last", "head", "body", "side", "signs"] ["grammar"] (defScope s_show_grammar) := ⟨rfl, rfl, rfl, by decide +kernel, rfl, by decide +kernel, by decide +kernel⟩
theorem ok_show_grammar {P : Program} {w : World} {K : PySem.W.Frag} {mg : Str → Option Value} {base : Heap} {kt cs : List Addr} (T : Txt K w kt cs mg) (F : G.DefAt K mg "show_grammar" "show_grammar" s_show_grammar ["grammar"]) (c_body_text : Cal P w K mg base "body_text" 1 ["body"] (spP K F_body_text)) : Cal P w K mg base "show_grammar" 2 ["grammar"] (spP K F_show_grammar) := by
  have nd := sc_show_grammar.nd
  exact okd_P (body := B_show_grammar) F sc_show_grammar rfl rfl (fun f cdv A outer s H EX hr => ⟨_, (pss_cons (ps_setLc (i := 1) (own := [("side", 5), ("signs", 6)]) rfl nd rfl rfl (sw_true rfl rfl rfl (by decide +kernel)) (G.k_it K rfl (G.k_at K (pv 0))) (blkOk_by (N := ["grammar", "rows", "last", "head", "body", "side", "signs"]) (sc := defScope s_show_grammar) (by decide +kernel)) (fun _ _ _ _ _ => (G.k_tup K rfl rfl (pgs_cons (pg_name (i := 5) nd rfl (by first | exact Or.inl rfl | exact Or.inr rfl)) (pgs_cons (pg_name (i := 6) nd rfl (by first | exact Or.inl rfl | exact Or.inr rfl)) pgs_nil)))) (fun _ _ _ _ _ => pts_nil) (fun _ _ _ _ _ => (G.k_join K rfl pe_str (pe_op (G.k_add K) (pe_tup (pa_cons (pv 5) pa_nil)) (pv 6)))))
      (pss_cons (ps_set (i := 2) nd rfl (Or.inl rfl) pe_non)
      (pss_cons (ps_for G.passes_cx rfl (G.k_it K rfl (G.k_at K (pv 0))) (G.k_tup K rfl rfl (pgs_cons (pg_name (i := 3) nd rfl (Or.inl rfl)) (pgs_cons (pg_name (i := 4) nd rfl (Or.inl rfl)) pgs_nil))) (pss_cons (ps_if (pt_cmpR (G.k_eq K rfl hr.units) (pv 3) (pv 2) (nomark _)) (pss_one (ps_asg (pe_op (G.k_add K) (pe_op (G.k_add K) (pe_ix (k_ix K (u65 hr)) (pv 1) (pe_un un_neg pe_int) (fun _ _ => rfl)) pe_str) (k_cal K c_body_text hr (by decide) G.takes_cx (by rfl) (pa_cons (pv 4) pa_nil))) (pg_sub (pv 1) (pe_un un_neg pe_int) set_list))) (pss_one (ps_expr (G.k_bm K rfl PySem.F.plainAttrs_list PySem.F.slot_list_append PySem.F.type_list_append mt_append (pv 1) (pa_cons (pe_op (G.k_add K) (pe_op (G.k_add K) (pv 3) pe_str) (k_cal K c_body_text hr (by decide) G.takes_cx (by rfl) (pa_cons (pv 4) pa_nil))) pa_nil)))))
      (pss_one (ps_set (i := 2) nd rfl (Or.inl rfl) (pv 3)))))
      (pss_one (ps_ret (G.k_join K rfl pe_str (pv 1))))))),
    (ss_seq (ss_asg (se_lcA (si_u (se_at T.fld se_var)) (tg_tup (tgs_cons tg_name (tgs_cons tg_name tgs_nil))) st_yes (se_m1 bs_join se_str (se_op bs_add (se_tup (sa_cons se_var sa_nil)) se_var))) tg_name)
      (ss_seq (ss_asg se_non tg_name)
      (ss_seq (ss_for (si_u (se_at T.fld se_var)) (tg_tup (tgs_cons tg_name (tgs_cons tg_name tgs_nil))) (ss_seq (ss_if (st_test (se_op bs_eq se_var se_var)) (ss_setL (se_op bs_add (se_op bs_add (se_ix se_var (se_un us_neg se_int)) se_str) (se_call (sa_cons se_var sa_nil))) se_var (se_un us_neg se_int)) (ss_drop (se_app se_var (se_op bs_add (se_op bs_add se_var se_str) (se_call (sa_cons se_var sa_nil))))))
      (ss_asg se_var tg_name)))
      (ss_ret (se_m1 bs_join se_str se_var)))))⟩)
theorem sc__law_row : FnScope ["_law_script", "_law_at", "_law_base", "_law_count", "_law_cell_here", "_law_left", "_law_found", "_law_k"] ["_law_script", "_law_at", "_law_base", "_law_count"] (defScope s__law_row) := ⟨rfl, rfl, rfl, by decide +kernel, rfl, by decide +kernel, by decide +kernel⟩
theorem ok__law_row {P : Program} {w : World} {K : PySem.W.Frag} {mg : Str → Option Value} {base : Heap} {kt cs : List Addr} (T : Txt K w kt cs mg) (F : G.DefAt K mg "_law_row" "_law_row" s__law_row ["_law_script", "_law_at", "_law_base", "_law_count"]) (c__law_cell : Cal P w K mg base "_law_cell" 1 ["_law_script", "_law_k"] (spP K F__law_cell)) (c__law_stir : Cal P w K mg base "_law_stir" 1 ["_law_cell_here", "_law_k"] (spP K F__law_stir)) : Cal P w K mg base "_law_row" 2 ["_law_script", "_law_at", "_law_base", "_law_count"] (spP K F__law_row) := by
  have nd := sc__law_row.nd
  exact okd_P (body := B__law_row) F sc__law_row rfl rfl (fun f cdv A outer s H EX hr => ⟨_, (pss_cons (ps_set (i := 4) nd rfl (Or.inl rfl) (k_cal K c__law_cell hr (by decide) G.takes_cx (by rfl) (pa_cons (pv 0) (pa_cons (pv 1) pa_nil))))
      (pss_cons (ps_set (i := 5) nd rfl (Or.inl rfl) (pe_op op_sub (pv 4) (pe_op op_pow pe_int pe_int)))
      (pss_cons (ps_set (i := 6) nd rfl (Or.inl rfl) (pe_lst pa_nil))
      (pss_cons (ps_for G.passes_cx rfl (pi_range1 (by rfl) T.b_range (pa_cons (pv 3) pa_nil)) (pg_name (i := 7) nd rfl (Or.inl rfl)) (pss_one (ps_if (pt_cmpR G.op_uGe (pv 4) (pe_op op_pow pe_int pe_int) (nomark _)) (pss_cons (ps_expr (G.k_bm K rfl PySem.F.plainAttrs_list PySem.F.slot_list_append PySem.F.type_list_append mt_append (pv 6) (pa_cons (pe_op op_modN (pv 5) (pv 2)) pa_nil)))
      (pss_one (ps_set (i := 5) nd rfl (Or.inl rfl) (pe_op op_fdivW (pv 5) (pv 2))))) (pss_one (ps_expr (G.k_bm K rfl PySem.F.plainAttrs_list PySem.F.slot_list_append PySem.F.type_list_append mt_append (pv 6) (pa_cons (pe_op op_modN (pe_op op_fdivW (k_cal K c__law_stir hr (by decide) G.takes_cx (by rfl) (pa_cons (pv 4) (pa_cons (pv 7) pa_nil))) pe_int) (pv 2)) pa_nil)))))))
      (pss_one (ps_ret (pv 6))))))),
    (ss_seq (ss_asg (se_call (sa_cons se_var (sa_cons se_var sa_nil))) tg_name)
      (ss_seq (ss_asg (se_op bs_sub se_var (se_op bs_pow se_int se_int)) tg_name)
      (ss_seq (ss_asg (se_lstA sa_nil) tg_name)
      (ss_seq (ss_for (si_rng1 (sa_cons se_var sa_nil)) tg_name (ss_if (st_test (se_op bs_ge se_var (se_op bs_pow se_int se_int))) (ss_seq (ss_drop (se_app se_var (se_op bs_mod se_var se_var)))
      (ss_asg (se_op bs_div se_var se_var) tg_name)) (ss_drop (se_app se_var (se_op bs_mod (se_op bs_div (se_call (sa_cons se_var (sa_cons se_var sa_nil))) se_int) se_var)))))
      (ss_ret (se_fz se_var))))))⟩)
theorem sc__law_text : FnScope ["_law_rules_here", "_law_ranks_here", "_law_parts", "_law_rows", "_law_last", "_law_number", "_law_rule", "_law_side", "_law_signs_here"] ["_law_rules_here", "_law_ranks_here", "_law_parts"] (defScope s__law_text) := ⟨rfl, rfl, rfl, by decide +kernel, rfl, by decide +kernel, by decide +kernel⟩
theorem ok__law_text {P : Program} {w : World} {K : PySem.W.Frag} {mg : Str → Option Value} {base : Heap} {kt cs : List Addr} (T : Txt K w kt cs mg) (F : G.DefAt K mg "_law_text" "_law_text" s__law_text ["_law_rules_here", "_law_ranks_here", "_law_parts"]) (c__law_body : Cal P w K mg base "_law_body" 1 ["_law_body_here"] (spP K F__law_body)) : Cal P w K mg base "_law_text" 2 ["_law_rules_here", "_law_ranks_here", "_law_parts"] (spP K F__law_text) := by
  have nd := sc__law_text.nd
  exact okd_P (body := B__law_text) F sc__law_text rfl rfl (fun f cdv A outer s H EX hr => ⟨_, (pss_cons (ps_setLc (i := 3) (own := [("_law_side", 7), ("_law_signs_here", 8)]) rfl nd rfl rfl (sw_true rfl rfl rfl (by decide +kernel)) (G.k_it K rfl (pv 1)) (blkOk_by (N := ["_law_rules_here", "_law_ranks_here", "_law_parts", "_law_rows", "_law_last", "_law_number", "_law_rule", "_law_side", "_law_signs_here"]) (sc := defScope s__law_text) (by decide +kernel)) (fun _ _ _ _ _ => (G.k_tup K rfl rfl (pgs_cons (pg_name (i := 7) nd rfl (by first | exact Or.inl rfl | exact Or.inr rfl)) (pgs_cons (pg_name (i := 8) nd rfl (by first | exact Or.inl rfl | exact Or.inr rfl)) pgs_nil)))) (fun _ _ _ _ _ => pts_nil) (fun _ _ _ _ _ => (pe_op (G.k_add K) (pe_op (G.k_add K) (pv 7) pe_str) (G.k_join K rfl pe_str (pv 8)))))
      (pss_cons (ps_set (i := 4) nd rfl (Or.inl rfl) pe_str)
      (pss_cons (ps_for G.passes_cx rfl (G.k_enum K rfl (by rfl) T.b_enumerate (pa_cons (pv 0) pa_nil)) (G.k_tup K rfl rfl (pgs_cons (pg_name (i := 5) nd rfl (Or.inl rfl)) (pgs_cons (pg_name (i := 6) nd rfl (Or.inl rfl)) pgs_nil))) (pss_cons (ps_if (PW.pt (pw_and (pt_cmpR (G.k_eq K rfl hr.units) (pe_ix (k_ix K (u65 hr)) (pv 6) pe_int (fun _ _ => rfl)) (pv 4) (nomark _)) (pw_and1 (pt_cmpR G.op_uGt (pe_ix (k_ix K (u65 hr)) (pv 2) (pv 5) (fun _ _ => rfl)) pe_int (nomark _))))) (pss_one (ps_asg (pe_op (G.k_add K) (pe_op (G.k_add K) (pe_ix (k_ix K (u65 hr)) (pv 3) (pe_un un_neg pe_int) (fun _ _ => rfl)) pe_str) (k_cal K c__law_body hr (by decide) G.takes_cx (by rfl) (pa_cons (pe_ix (k_ix K (u65 hr)) (pv 6) pe_int (fun _ _ => rfl)) pa_nil))) (pg_sub (pv 3) (pe_un un_neg pe_int) set_list))) (pss_one (ps_expr (G.k_bm K rfl PySem.F.plainAttrs_list PySem.F.slot_list_append PySem.F.type_list_append mt_append (pv 3) (pa_cons (pe_op (G.k_add K) (pe_op (G.k_add K) (pe_ix (k_ix K (u65 hr)) (pv 6) pe_int (fun _ _ => rfl)) pe_str) (k_cal K c__law_body hr (by decide) G.takes_cx (by rfl) (pa_cons (pe_ix (k_ix K (u65 hr)) (pv 6) pe_int (fun _ _ => rfl)) pa_nil))) pa_nil)))))
      (pss_one (ps_set (i := 4) nd rfl (Or.inl rfl) (pe_ix (k_ix K (u65 hr)) (pv 6) pe_int (fun _ _ => rfl))))))
      (pss_one (ps_ret (G.k_join K rfl pe_str (pv 3))))))),
    (ss_seq (ss_asg (se_lcA (si_u se_var) (tg_tup (tgs_cons tg_name (tgs_cons tg_name tgs_nil))) st_yes (se_op bs_add (se_op bs_add se_var se_str) (se_m1 bs_join se_str se_var))) tg_name)
      (ss_seq (ss_asg se_str tg_name)
      (ss_seq (ss_for (si_enum (sa_cons se_var sa_nil)) (tg_tup (tgs_cons tg_name (tgs_cons tg_name tgs_nil))) (ss_seq (ss_if (st_and (st_test (se_op bs_eq (se_ix se_var se_int) se_var)) (st_test (se_op bs_gt (se_ix se_var se_var) se_int))) (ss_setL (se_op bs_add (se_op bs_add (se_ix se_var (se_un us_neg se_int)) se_str) (se_call (sa_cons (se_ix se_var se_int) sa_nil))) se_var (se_un us_neg se_int)) (ss_drop (se_app se_var (se_op bs_add (se_op bs_add (se_ix se_var se_int) se_str) (se_call (sa_cons (se_ix se_var se_int) sa_nil))))))
      (ss_asg (se_ix se_var se_int) tg_name)))
      (ss_ret (se_m1 bs_join se_str se_var)))))⟩)
theorem sc_is_symbol : FnScope ["thing"] ["thing"] (defScope s_is_symbol) := ⟨rfl, rfl, rfl, by decide +kernel, rfl, by decide +kernel, by decide +kernel⟩
theorem ok_is_symbol {P : Program} {w : World} {K : PySem.W.Frag} {mg : Str → Option Value} {base : Heap} {kt cs : List Addr} (T : Txt K w kt cs mg) (F : G.DefAt K mg "is_symbol" "is_symbol" s_is_symbol ["thing"]) (c_is_sign : Cal P w K mg base "is_sign" 2 ["thing"] (spP K F_is_sign)) (c_is_head : Cal P w K mg base "is_head" 2 ["thing"] (spP K F_is_head)) : Cal P w K mg base "is_symbol" 3 ["thing"] (spP K F_is_symbol) := by
  have nd := sc_is_symbol.nd
  exact okd_P (body := B_is_symbol) F sc_is_symbol rfl rfl (fun f cdv A outer s H EX hr => ⟨_, (pss_one (ps_ret (pe_or (k_cal K c_is_sign hr (by decide) G.takes_cx (by rfl) (pa_cons (pv 0) pa_nil)) (pe_one (k_cal K c_is_head hr (by decide) G.takes_cx (by rfl) (pa_cons (pv 0) pa_nil)))))),
    (ss_ret (se_orV (se_call (sa_cons se_var sa_nil)) (se_call (sa_cons se_var sa_nil))))⟩)
theorem sc_is_rank : FnScope ["thing", "sign"] ["thing"] (defScope s_is_rank) := ⟨rfl, rfl, rfl, by decide +kernel, rfl, by decide +kernel, by decide +kernel⟩
theorem ok_is_rank {P : Program} {w : World} {K : PySem.W.Frag} {mg : Str → Option Value} {base : Heap} {kt cs : List Addr} (T : Txt K w kt cs mg) (F : G.DefAt K mg "is_rank" "is_rank" s_is_rank ["thing"]) (c_is_sign : Cal P w K mg base "is_sign" 2 ["thing"] (spP K F_is_sign)) : Cal P w K mg base "is_rank" 3 ["thing"] (spP K F_is_rank) := by
  have nd := sc_is_rank.nd
  exact okd_P (body := B_is_rank) F sc_is_rank rfl rfl (fun f cdv A outer s H EX hr => ⟨_, (pss_cons (ps_if (PW.pt (pw_or (pt_not (pt_val (pe_callB (k_isi K) (by rfl) T.b_isinstance bt_isinstance (pa_cons (pv 0) (pa_cons (pe_bltn (v := .ty "tuple") (by rfl) T.b_tuple bt_tuple rfl) pa_nil))))) (pw_or (pt_cmpR (G.k_ne K rfl hr.units) (pe_callB (G.k_len K) (by rfl) T.b_len bt_len (pa_cons (pv 0) pa_nil)) pe_int (nomark _)) (pw_or (pt_not (pt_val (pe_callB (k_isi K) (by rfl) T.b_isinstance bt_isinstance (pa_cons (pe_ix (k_ix K (u65 hr)) (pv 0) pe_int (fun _ _ => rfl)) (pa_cons (pe_bltn (v := .ty "str") (by rfl) T.b_str bt_str rfl) pa_nil))))) (pw_or1 (pt_cmpR (k_ni K (u65 hr)) (pe_ix (k_ix K (u65 hr)) (pv 0) pe_int (fun _ _ => rfl)) (G.pe_gl T.g_SIDES) (by rfl))))))) (pss_one (ps_ret pe_bl)) pss_nil)
      (pss_cons (ps_if (PW.pt (pw_or (pt_not (pt_val (pe_callB (k_isi K) (by rfl) T.b_isinstance bt_isinstance (pa_cons (pe_ix (k_ix K (u65 hr)) (pv 0) pe_int (fun _ _ => rfl)) (pa_cons (pe_bltn (v := .ty "tuple") (by rfl) T.b_tuple bt_tuple rfl) pa_nil))))) (pw_or1 (pt_not (pt_chain G.op_uLe G.op_uLe pe_int (pe_callB (G.k_len K) (by rfl) T.b_len bt_len (pa_cons (pe_ix (k_ix K (u65 hr)) (pv 0) pe_int (fun _ _ => rfl)) pa_nil)) (G.pe_gl T.g_MOST_SIGNS)))))) (pss_one (ps_ret pe_bl)) pss_nil)
      (pss_one (ps_ret (pe_callB (G.k_all K rfl rfl) (by rfl) T.b_all bt_all (pa_cons (pe_lc (own := [("sign", 1)]) rfl nd (G.k_it K rfl (pe_ix (k_ix K (u65 hr)) (pv 0) pe_int (fun _ _ => rfl))) (blkOk_by (N := ["thing", "sign"]) (sc := defScope s_is_rank) (by decide +kernel)) (fun _ _ _ _ _ => (pg_name (i := 1) nd rfl (by first | exact Or.inl rfl | exact Or.inr rfl))) (fun _ _ _ _ _ => pts_nil) (fun _ _ _ _ _ => (k_cal K c_is_sign hr (by decide) takes0 (by rfl) (pa_cons (pv 1) pa_nil)))) pa_nil)))))),
    (ss_seq (ss_if (st_or (st_not (st_b (se_cb (ca_isi T.isa) (sa_cons se_var (sa_cons se_ty sa_nil))))) (st_or (st_test (se_op bs_ne (se_cb ca_len (sa_cons se_var sa_nil)) se_int)) (st_or (st_not (st_b (se_cb (ca_isi T.isa) (sa_cons (se_ix se_var se_int) (sa_cons se_ty sa_nil))))) (st_test (se_op bs_ni (se_ix se_var se_int) (se_c T.kt_SIDES)))))) (ss_ret se_bl) ss_nx)
      (ss_seq (ss_if (st_or (st_not (st_b (se_cb (ca_isi T.isa) (sa_cons (se_ix se_var se_int) (sa_cons se_ty sa_nil))))) (st_not (st_test (se_chain bs_le bs_le se_int (se_cb ca_len (sa_cons (se_ix se_var se_int) sa_nil)) se_int)))) (ss_ret se_bl) ss_nx)
      (ss_ret (se_cb ca_all (sa_cons (se_lc (si_u (se_ix se_var se_int)) tg_name st_yes (se_call (sa_cons se_var sa_nil))) sa_nil)))))⟩)
theorem sc_Grammar_signs_b : FnScope ["self", "found", "head", "body", "symbol"] ["self"] (defScope (clsM 30 4)) := ⟨rfl, rfl, rfl, by decide +kernel, rfl, by decide +kernel, by decide +kernel⟩
theorem ok_Grammar_signs_b {P : Program} {w : World} {K : PySem.W.Frag} {mg : Str → Option Value} {base : Heap} {kt cs : List Addr} {dv : List V} {f : Addr} {fd : FuncData} (T : Txt K w kt cs mg) (F : FunD K "signs" "Grammar.signs" (defArgs (clsM 30 4)) (defBody (clsM 30 4)) (defScope (clsM 30 4)) dv [] f fd) (c_is_sign : Cal P w K mg base "is_sign" 2 ["thing"] (spP K F_is_sign)) : FnOk P w K mg base (L2.CX P w) 3 f fd ["self"] (spB K F_Grammar_signs_b) := by
  have nd := sc_Grammar_signs_b.nd
  exact okfd_B (body := B_Grammar_signs_b) F sc_Grammar_signs_b rfl rfl (fun cdv A outer s H EX hr => ⟨_, (pss_cons (ps_set (i := 1) nd rfl (Or.inl rfl) pe_dnewK)
      (pss_cons (ps_for G.passes_cx rfl (G.k_it K rfl (G.k_at K (pv 0))) (G.k_tup K rfl rfl (pgs_cons (pg_name (i := 2) nd rfl (Or.inl rfl)) (pgs_cons (pg_name (i := 3) nd rfl (Or.inl rfl)) pgs_nil))) (pss_one (ps_for G.passes_cx rfl (G.k_it K rfl (pv 3)) (pg_name (i := 4) nd rfl (Or.inl rfl)) (pss_one (ps_if (pt_val (k_cal K c_is_sign hr (by decide) G.takes_cx (by rfl) (pa_cons (pv 4) pa_nil))) (pss_one (ps_dput hr.units1 (pv 1) (pv 4) pe_bl rfl)) pss_nil)))))
      (pss_one (ps_ret (pe_callB (k_sorted K rfl rfl) (by rfl) T.b_sorted bt_sorted (pa_cons (pv 1) pa_nil)))))),
    (ss_seq (ss_asg se_dKA tg_name)
      (ss_seq (ss_for (si_u (se_at T.fld se_var)) (tg_tup (tgs_cons tg_name (tgs_cons tg_name tgs_nil))) (ss_for (si_u se_var) tg_name (ss_if (st_b (se_call (sa_cons se_var sa_nil))) (ss_setD se_bl se_var se_var) ss_nx)))
      (ss_ret (se_cb (CaF.s cf_sorted) (sa_cons se_var sa_nil)))))⟩)
theorem sc_rank_in : FnScope ["row", "words", "word"] ["row"] (defScope s_rank_in) := ⟨rfl, rfl, rfl, by decide +kernel, rfl, by decide +kernel, by decide +kernel⟩
theorem ok_rank_in {P : Program} {w : World} {K : PySem.W.Frag} {mg : Str → Option Value} {base : Heap} {kt cs : List Addr} (T : Txt K w kt cs mg) (F : G.DefAt K mg "rank_in" "rank_in" s_rank_in ["row"]) (c_is_sign : Cal P w K mg base "is_sign" 2 ["thing"] (spP K F_is_sign)) : Cal P w K mg base "rank_in" 3 ["row"] (spP K F_rank_in) := by
  have nd := sc_rank_in.nd
  exact okd_P (body := B_rank_in) F sc_rank_in rfl rfl (fun f cdv A outer s H EX hr => ⟨_, (pss_cons (ps_set (i := 1) nd rfl (Or.inl rfl) (pe_split (pv 0) pe_str))
      (pss_cons (ps_if (PW.pt (pw_or (pt_cmpR (k_ni K (u65 hr)) (pe_ix (k_ix K (u65 hr)) (pv 1) pe_int (fun _ _ => rfl)) (G.pe_gl T.g_SIDES) (by rfl)) (pw_or (pt_cmpR G.op_uLt (pe_callB (G.k_len K) (by rfl) T.b_len bt_len (pa_cons (pv 1) pa_nil)) pe_int (nomark _)) (pw_or1 (pt_not (pt_val (pe_callB (G.k_all K rfl rfl) (by rfl) T.b_all bt_all (pa_cons (pe_lc (own := [("word", 2)]) rfl nd (G.k_it K rfl (pe_slice (G.k_sl K) (pv 1) (po_some pe_int) po_none)) (blkOk_by (N := ["row", "words", "word"]) (sc := defScope s_rank_in) (by decide +kernel)) (fun _ _ _ _ _ => (pg_name (i := 2) nd rfl (by first | exact Or.inl rfl | exact Or.inr rfl))) (fun _ _ _ _ _ => pts_nil) (fun _ _ _ _ _ => (k_cal K c_is_sign hr (by decide) takes0 (by rfl) (pa_cons (pv 2) pa_nil)))) pa_nil)))))))) (pss_one (ps_ret pe_non)) pss_nil)
      (pss_one (ps_ret (pe_tup (pa_cons (pe_ix (k_ix K (u65 hr)) (pv 1) pe_int (fun _ _ => rfl)) (pa_cons (pe_callTy (G.k_tuple K) (by rfl) T.b_tuple bt_tuple (pa_cons (pe_slice (G.k_sl K) (pv 1) (po_some pe_int) po_none) pa_nil)) pa_nil))))))),
    (ss_seq (ss_asg (se_m1 (BinF.s bf_split) se_var se_str) tg_name)
      (ss_seq (ss_if (st_or (st_test (se_op bs_ni (se_ix se_var se_int) (se_c T.kt_SIDES))) (st_or (st_test (se_op bs_lt (se_cb ca_len (sa_cons se_var sa_nil)) se_int)) (st_not (st_b (se_cb ca_all (sa_cons (se_lc (si_u (se_sl ss_slD se_var (so_some se_int) so_none)) tg_name st_yes (se_call (sa_cons se_var sa_nil))) sa_nil)))))) (ss_ret se_non) ss_nx)
      (ss_ret (se_tup (sa_cons (se_ix se_var se_int) (sa_cons (se_cb ca_tup (sa_cons (se_sl ss_slD se_var (so_some se_int) so_none) sa_nil)) sa_nil))))))⟩)
theorem sc__law_drawn_rules : FnScope ["_law_script", "_law_at", "_law_heads_here", "_law_signs_here", "_law_more", "_law_rules_here", "_law_k", "_law_draws", "_law_head", "_law_some", "_law_body_here", "_law_draw"] ["_law_script", "_law_at", "_law_heads_here", "_law_signs_here", "_law_more"] (defScope s__law_drawn_rules) := ⟨rfl, rfl, rfl, by decide +kernel, rfl, by decide +kernel, by decide +kernel⟩
theorem ok__law_drawn_rules {P : Program} {w : World} {K : PySem.W.Frag} {mg : Str → Option Value} {base : Heap} {kt cs : List Addr} (T : Txt K w kt cs mg) (F : G.DefAt K mg "_law_drawn_rules" "_law_drawn_rules" s__law_drawn_rules ["_law_script", "_law_at", "_law_heads_here", "_law_signs_here", "_law_more"]) (c__law_row : Cal P w K mg base "_law_row" 2 ["_law_script", "_law_at", "_law_base", "_law_count"] (spP K F__law_row)) : Cal P w K mg base "_law_drawn_rules" 3 ["_law_script", "_law_at", "_law_heads_here", "_law_signs_here", "_law_more"] (spP K F__law_drawn_rules) := by
  have nd := sc__law_drawn_rules.nd
  exact okd_P (body := B__law_drawn_rules) F sc__law_drawn_rules rfl rfl (fun f cdv A outer s H EX hr => ⟨_, (pss_cons (ps_set (i := 5) nd rfl (Or.inl rfl) (pe_lst pa_nil))
      (pss_cons (ps_for G.passes_cx rfl (pi_range1 (by rfl) T.b_range (pa_cons (pe_op (G.k_add K) (pe_callB (G.k_len K) (by rfl) T.b_len bt_len (pa_cons (pv 2) pa_nil)) (pv 4)) pa_nil)) (pg_name (i := 6) nd rfl (Or.inl rfl)) (pss_cons (ps_set (i := 7) nd rfl (Or.inl rfl) (k_cal K c__law_row hr (by decide) G.takes_cx (by rfl) (pa_cons (pv 0) (pa_cons (pe_op (G.k_add K) (pv 1) (pv 6)) (pa_cons pe_int (pa_cons pe_int pa_nil))))))
      (pss_cons (ps_set (i := 8) nd rfl (Or.inl rfl) (pe_ix (k_ix K (u65 hr)) (pv 2) (pe_op op_modN (pv 6) (pe_callB (G.k_len K) (by rfl) T.b_len bt_len (pa_cons (pv 2) pa_nil))) (fun _ _ => rfl)))
      (pss_cons (ps_if (pt_cmpR G.op_uGe (pv 6) (pe_callB (G.k_len K) (by rfl) T.b_len bt_len (pa_cons (pv 2) pa_nil)) (nomark _)) (pss_one (ps_set (i := 8) nd rfl (Or.inl rfl) (pe_ix (k_ix K (u65 hr)) (pv 2) (pe_op op_modN (pe_ix (k_ix K (u65 hr)) (pv 7) pe_int (fun _ _ => rfl)) (pe_callB (G.k_len K) (by rfl) T.b_len bt_len (pa_cons (pv 2) pa_nil))) (fun _ _ => rfl)))) pss_nil)
      (pss_cons (ps_set (i := 9) nd rfl (Or.inr rfl) (pe_op (G.k_add K) (pv 2) (pv 3)))
      (pss_cons (ps_setLc (i := 10) (own := [("_law_draw", 11)]) rfl nd rfl rfl (sw_true rfl rfl rfl (by decide +kernel)) (G.k_it K rfl (pe_slice (G.k_sl K) (pv 7) (po_some pe_int) (po_some (pe_op (G.k_add K) pe_int (pe_op op_modN (pe_ix (k_ix K (u65 hr)) (pv 7) pe_int (fun _ _ => rfl)) pe_int))))) (blkOk_by (N := ["_law_script", "_law_at", "_law_heads_here", "_law_signs_here", "_law_more", "_law_rules_here", "_law_k", "_law_draws", "_law_head", "_law_some", "_law_body_here", "_law_draw"]) (sc := defScope s__law_drawn_rules) (by decide +kernel)) (fun _ _ _ _ _ => (pg_name (i := 11) nd rfl (by first | exact Or.inl rfl | exact Or.inr rfl))) (fun _ _ _ _ _ => pts_nil) (fun _ _ _ _ _ => (pe_ix (k_ix K (u65 hr)) (pv 9) (pe_op op_modN (pv 11) (pe_callB (G.k_len K) (by rfl) T.b_len bt_len (pa_cons (pv 9) pa_nil))) (fun _ _ => rfl))))
      (pss_one (ps_if (pt_cmpR (k_ni K (u65 hr)) (pe_tup (pa_cons (pv 8) (pa_cons (pe_callTy (G.k_tuple K) (by rfl) T.b_tuple bt_tuple (pa_cons (pv 10) pa_nil)) pa_nil))) (pv 5) (by rfl)) (pss_one (ps_expr (G.k_bm K rfl PySem.F.plainAttrs_list PySem.F.slot_list_append PySem.F.type_list_append mt_append (pv 5) (pa_cons (pe_tup (pa_cons (pv 8) (pa_cons (pe_callTy (G.k_tuple K) (by rfl) T.b_tuple bt_tuple (pa_cons (pv 10) pa_nil)) pa_nil))) pa_nil)))) pss_nil))))))))
      (pss_one (ps_ret (pv 5))))),
    (ss_seq (ss_asg (se_lstA sa_nil) tg_name)
      (ss_seq (ss_for (si_rng1 (sa_cons (se_op bs_add (se_cb ca_len (sa_cons se_var sa_nil)) se_var) sa_nil)) tg_name (ss_seq (ss_asg (se_call (sa_cons se_var (sa_cons (se_op bs_add se_var se_var) (sa_cons se_int (sa_cons se_int sa_nil))))) tg_name)
      (ss_seq (ss_asg (se_ix se_var (se_op bs_mod se_var (se_cb ca_len (sa_cons se_var sa_nil)))) tg_name)
      (ss_seq (ss_if (st_test (se_op bs_ge se_var (se_cb ca_len (sa_cons se_var sa_nil)))) (ss_asg (se_ix se_var (se_op bs_mod (se_ix se_var se_int) (se_cb ca_len (sa_cons se_var sa_nil)))) tg_name) ss_nx)
      (ss_seq (ss_asg (se_op bs_add se_var se_var) tg_name)
      (ss_seq (ss_asg (se_lc (si_u (se_sl ss_slD se_var (so_some se_int) (so_some (se_op bs_add se_int (se_op bs_mod (se_ix se_var se_int) se_int))))) tg_name st_yes (se_ix se_var (se_op bs_mod se_var (se_cb ca_len (sa_cons se_var sa_nil))))) tg_name)
      (ss_if (st_test (se_op bs_ni (se_tup (sa_cons se_var (sa_cons (se_cb ca_tup (sa_cons se_var sa_nil)) sa_nil))) se_var)) (ss_drop (se_app se_var (se_tup (sa_cons se_var (sa_cons (se_cb ca_tup (sa_cons se_var sa_nil)) sa_nil))))) ss_nx)))))))
      (ss_ret (se_fz se_var))))⟩)
theorem sc__law_ranks : FnScope ["_law_script", "_law_at", "_law_draws", "_law_pool", "_law_ranks_here", "_law_k", "_law_side"] ["_law_script", "_law_at"] (defScope s__law_ranks) := ⟨rfl, rfl, rfl, by decide +kernel, rfl, by decide +kernel, by decide +kernel⟩
theorem ok__law_ranks {P : Program} {w : World} {K : PySem.W.Frag} {mg : Str → Option Value} {base : Heap} {kt cs : List Addr} (T : Txt K w kt cs mg) (F : G.DefAt K mg "_law_ranks" "_law_ranks" s__law_ranks ["_law_script", "_law_at"]) (c__law_row : Cal P w K mg base "_law_row" 2 ["_law_script", "_law_at", "_law_base", "_law_count"] (spP K F__law_row)) (c__law_signs : Cal P w K mg base "_law_signs" 1 ["_law_cell_here", "_law_many_here"] (spP K F__law_signs)) : Cal P w K mg base "_law_ranks" 3 ["_law_script", "_law_at"] (spP K F__law_ranks) := by
  have nd := sc__law_ranks.nd
  exact okd_P (body := B__law_ranks) F sc__law_ranks rfl rfl (fun f cdv A outer s H EX hr => ⟨_, (pss_cons (ps_set (i := 2) nd rfl (Or.inl rfl) (k_cal K c__law_row hr (by decide) G.takes_cx (by rfl) (pa_cons (pv 0) (pa_cons (pv 1) (pa_cons (pe_op G.op_uMul (pe_op G.op_uMul pe_int pe_int) pe_int) (pa_cons pe_int pa_nil))))))
      (pss_cons (ps_set (i := 3) nd rfl (Or.inl rfl) (k_cal K c__law_signs hr (by decide) G.takes_cx (by rfl) (pa_cons (pe_ix (k_ix K (u65 hr)) (pv 2) pe_int (fun _ _ => rfl)) (pa_cons pe_int pa_nil))))
      (pss_cons (ps_set (i := 4) nd rfl (Or.inl rfl) (pe_lst pa_nil))
      (pss_cons (ps_for G.passes_cx rfl (pi_range1 (by rfl) T.b_range (pa_cons (pe_op op_modN (pe_ix (k_ix K (u65 hr)) (pv 2) pe_int (fun _ _ => rfl)) pe_int) pa_nil)) (pg_name (i := 5) nd rfl (Or.inl rfl)) (pss_cons (ps_set (i := 6) nd rfl (Or.inl rfl) (pe_ix (k_ix K (u65 hr)) (pe_lst (pa_cons pe_str (pa_cons pe_str (pa_cons pe_str pa_nil)))) (pe_op op_modN (pe_ix (k_ix K (u65 hr)) (pv 2) (pe_op (G.k_add K) pe_int (pv 5)) (fun _ _ => rfl)) pe_int) (fun _ _ => rfl)))
      (pss_one (ps_expr (G.k_bm K rfl PySem.F.plainAttrs_list PySem.F.slot_list_append PySem.F.type_list_append mt_append (pv 4) (pa_cons (pe_tup (pa_cons (pv 6) (pa_cons (pe_callTy (G.k_tuple K) (by rfl) T.b_tuple bt_tuple (pa_cons (pe_slice (G.k_sl K) (pv 3) (po_some (pe_op G.op_uMul pe_int (pv 5))) (po_some (pe_op (G.k_add K) (pe_op (G.k_add K) (pe_op G.op_uMul pe_int (pv 5)) pe_int) (pe_op op_modN (pe_op op_fdivW (pe_ix (k_ix K (u65 hr)) (pv 2) (pe_op (G.k_add K) pe_int (pv 5)) (fun _ _ => rfl)) pe_int) pe_int)))) pa_nil)) pa_nil))) pa_nil))))))
      (pss_one (ps_ret (pv 4))))))),
    (ss_seq (ss_asg (se_call (sa_cons se_var (sa_cons se_var (sa_cons (se_op bs_mul (se_op bs_mul se_int se_int) se_int) (sa_cons se_int sa_nil))))) tg_name)
      (ss_seq (ss_asg (se_call (sa_cons (se_ix se_var se_int) (sa_cons se_int sa_nil))) tg_name)
      (ss_seq (ss_asg (se_lstA sa_nil) tg_name)
      (ss_seq (ss_for (si_rng1 (sa_cons (se_op bs_mod (se_ix se_var se_int) se_int) sa_nil)) tg_name (ss_seq (ss_asg (se_ix (se_lst (sa_cons se_str (sa_cons se_str (sa_cons se_str sa_nil)))) (se_op bs_mod (se_ix se_var (se_op bs_add se_int se_var)) se_int)) tg_name)
      (ss_drop (se_app se_var (se_tup (sa_cons se_var (sa_cons (se_cb ca_tup (sa_cons (se_sl ss_slD se_var (so_some (se_op bs_mul se_int se_var)) (so_some (se_op bs_add (se_op bs_add (se_op bs_mul se_int se_var) se_int) (se_op bs_mod (se_op bs_div (se_ix se_var (se_op bs_add se_int se_var)) se_int) se_int)))) sa_nil)) sa_nil)))))))
      (ss_ret (se_fz se_var))))))⟩)
theorem sc__law_right : FnScope ["_law_grammar", "_law_rules_here", "_law_ranks_here", "_law_shown", "_law_found"] ["_law_grammar", "_law_rules_here", "_law_ranks_here", "_law_shown"] (defScope s__law_right) := ⟨rfl, rfl, rfl, by decide +kernel, rfl, by decide +kernel, by decide +kernel⟩
theorem ok__law_right {P : Program} {w : World} {K : PySem.W.Frag} {mg : Str → Option Value} {base : Heap} {kt cs : List Addr} (T : Txt K w kt cs mg) (F : G.DefAt K mg "_law_right" "_law_right" s__law_right ["_law_grammar", "_law_rules_here", "_law_ranks_here", "_law_shown"]) (c_show_grammar : Cal P w K mg base "show_grammar" 2 ["grammar"] (spP K F_show_grammar)) : Cal P w K mg base "_law_right" 3 ["_law_grammar", "_law_rules_here", "_law_ranks_here", "_law_shown"] (spP K F__law_right) := by
  have nd := sc__law_right.nd
  exact okd_P (body := B__law_right) F sc__law_right rfl rfl (fun f cdv A outer s H EX hr => ⟨_, (pss_cons (ps_if (PW.pt (pw_or (pt_cmpR (G.k_ne K rfl hr.units) (G.k_at K (pv 0)) (pe_callTy (G.k_tuple K) (by rfl) T.b_tuple bt_tuple (pa_cons (pv 1) pa_nil)) (nomark _)) (pw_or (pt_cmpR (G.k_ne K rfl hr.units) (G.k_at K (pv 0)) (pe_callTy (G.k_tuple K) (by rfl) T.b_tuple bt_tuple (pa_cons (pv 2) pa_nil)) (nomark _)) (pw_or1 (pt_cmpR (G.k_ne K rfl hr.units) (G.k_at K (pv 0)) (pe_ix (k_ix K (u65 hr)) (pe_ix (k_ix K (u65 hr)) (pv 1) pe_int (fun _ _ => rfl)) pe_int (fun _ _ => rfl)) (nomark _)))))) (pss_one (ps_ret pe_bl)) pss_nil)
      (pss_cons (ps_set (i := 4) nd rfl (Or.inl rfl) (k_cal K c_show_grammar hr (by decide) G.takes_cx (by rfl) (pa_cons (pv 0) pa_nil)))
      (pss_one (ps_ret (pe_and (pe_callB (k_isi K) (by rfl) T.b_isinstance bt_isinstance (pa_cons (pv 4) (pa_cons (pe_bltn (v := .ty "str") (by rfl) T.b_str bt_str rfl) pa_nil))) (pe_one (pe_cmpR (G.k_eq K rfl hr.units) (pv 4) (pv 3) (nomark _)))))))),
    (ss_seq (ss_if (st_or (st_test (se_op bs_ne (se_at T.fld se_var) (se_cb ca_tup (sa_cons se_var sa_nil)))) (st_or (st_test (se_op bs_ne (se_at T.fld se_var) (se_cb ca_tup (sa_cons se_var sa_nil)))) (st_test (se_op bs_ne (se_at T.fld se_var) (se_ix (se_ix se_var se_int) se_int))))) (ss_ret se_bl) ss_nx)
      (ss_seq (ss_asg (se_call (sa_cons se_var sa_nil)) tg_name)
      (ss_ret (se_andV (se_cb (ca_isi T.isa) (sa_cons se_var (sa_cons se_ty sa_nil))) (se_op bs_eq se_var se_var)))))⟩)
theorem sc_is_rule : FnScope ["thing", "symbol"] ["thing"] (defScope s_is_rule) := ⟨rfl, rfl, rfl, by decide +kernel, rfl, by decide +kernel, by decide +kernel⟩
theorem ok_is_rule {P : Program} {w : World} {K : PySem.W.Frag} {mg : Str → Option Value} {base : Heap} {kt cs : List Addr} (T : Txt K w kt cs mg) (F : G.DefAt K mg "is_rule" "is_rule" s_is_rule ["thing"]) (c_is_head : Cal P w K mg base "is_head" 2 ["thing"] (spP K F_is_head)) (c_is_symbol : Cal P w K mg base "is_symbol" 3 ["thing"] (spP K F_is_symbol)) : Cal P w K mg base "is_rule" 4 ["thing"] (spP K F_is_rule) := by
  have nd := sc_is_rule.nd
  exact okd_P (body := B_is_rule) F sc_is_rule rfl rfl (fun f cdv A outer s H EX hr => ⟨_, (pss_cons (ps_if (PW.pt (pw_or (pt_not (pt_val (pe_callB (k_isi K) (by rfl) T.b_isinstance bt_isinstance (pa_cons (pv 0) (pa_cons (pe_bltn (v := .ty "tuple") (by rfl) T.b_tuple bt_tuple rfl) pa_nil))))) (pw_or (pt_cmpR (G.k_ne K rfl hr.units) (pe_callB (G.k_len K) (by rfl) T.b_len bt_len (pa_cons (pv 0) pa_nil)) pe_int (nomark _)) (pw_or1 (pt_not (pt_val (k_cal K c_is_head hr (by decide) G.takes_cx (by rfl) (pa_cons (pe_ix (k_ix K (u65 hr)) (pv 0) pe_int (fun _ _ => rfl)) pa_nil)))))))) (pss_one (ps_ret pe_bl)) pss_nil)
      (pss_cons (ps_if (PW.pt (pw_or (pt_not (pt_val (pe_callB (k_isi K) (by rfl) T.b_isinstance bt_isinstance (pa_cons (pe_ix (k_ix K (u65 hr)) (pv 0) pe_int (fun _ _ => rfl)) (pa_cons (pe_bltn (v := .ty "tuple") (by rfl) T.b_tuple bt_tuple rfl) pa_nil))))) (pw_or1 (pt_cmpR G.op_uGt (pe_callB (G.k_len K) (by rfl) T.b_len bt_len (pa_cons (pe_ix (k_ix K (u65 hr)) (pv 0) pe_int (fun _ _ => rfl)) pa_nil)) (G.pe_gl T.g_MOST_IN_BODY) (nomark _))))) (pss_one (ps_ret pe_bl)) pss_nil)
      (pss_one (ps_ret (pe_callB (G.k_all K rfl rfl) (by rfl) T.b_all bt_all (pa_cons (pe_lc (own := [("symbol", 1)]) rfl nd (G.k_it K rfl (pe_ix (k_ix K (u65 hr)) (pv 0) pe_int (fun _ _ => rfl))) (blkOk_by (N := ["thing", "symbol"]) (sc := defScope s_is_rule) (by decide +kernel)) (fun _ _ _ _ _ => (pg_name (i := 1) nd rfl (by first | exact Or.inl rfl | exact Or.inr rfl))) (fun _ _ _ _ _ => pts_nil) (fun _ _ _ _ _ => (k_cal K c_is_symbol hr (by decide) takes0 (by rfl) (pa_cons (pv 1) pa_nil)))) pa_nil)))))),
    (ss_seq (ss_if (st_or (st_not (st_b (se_cb (ca_isi T.isa) (sa_cons se_var (sa_cons se_ty sa_nil))))) (st_or (st_test (se_op bs_ne (se_cb ca_len (sa_cons se_var sa_nil)) se_int)) (st_not (st_b (se_call (sa_cons (se_ix se_var se_int) sa_nil)))))) (ss_ret se_bl) ss_nx)
      (ss_seq (ss_if (st_or (st_not (st_b (se_cb (ca_isi T.isa) (sa_cons (se_ix se_var se_int) (sa_cons se_ty sa_nil))))) (st_test (se_op bs_gt (se_cb ca_len (sa_cons (se_ix se_var se_int) sa_nil)) se_int))) (ss_ret se_bl) ss_nx)
      (ss_ret (se_cb ca_all (sa_cons (se_lc (si_u (se_ix se_var se_int)) tg_name st_yes (se_call (sa_cons se_var sa_nil))) sa_nil)))))⟩)
theorem sc_need_ranks : FnScope ["ranks", "known", "rank", "sign"] ["ranks"] (defScope s_need_ranks) := ⟨rfl, rfl, rfl, by decide +kernel, rfl, by decide +kernel, by decide +kernel⟩
theorem ok_need_ranks {P : Program} {w : World} {K : PySem.W.Frag} {mg : Str → Option Value} {base : Heap} {kt cs : List Addr} (T : Txt K w kt cs mg) (F : G.DefAt K mg "need_ranks" "need_ranks" s_need_ranks ["ranks"]) (c_is_rank : Cal P w K mg base "is_rank" 3 ["thing"] (spP K F_is_rank)) (x_NoRanks : XcC P w K mg base "NoRanks" ["self", "found"] (fun C => G.spI C (Str.ofString "found"))) (x_TooMany : XcC P w K mg base "TooMany" ["self", "found"] (fun C => G.spI C (Str.ofString "found"))) : Cal P w K mg base "need_ranks" 4 ["ranks"] (spP K F_need_ranks) := by
  have nd := sc_need_ranks.nd
  exact okd_P (body := B_need_ranks) F sc_need_ranks rfl rfl (fun f cdv A outer s H EX hr => ⟨_, (pss_cons (ps_if (pt_not (pt_val (pe_callB (k_isi K) (by rfl) T.b_isinstance bt_isinstance (pa_cons (pv 0) (pa_cons (pe_tup (pa_cons (pe_bltn (v := .ty "list") (by rfl) T.b_list bt_list rfl) (pa_cons (pe_bltn (v := .ty "tuple") (by rfl) T.b_tuple bt_tuple rfl) pa_nil))) pa_nil))))) (pss_one (ps_raise rfl G.takes_cx (k_rz K x_NoRanks hr (by decide) (by rfl) (pa_cons (pv 0) pa_nil)))) pss_nil)
      (pss_cons (ps_if (pt_cmpR G.op_uGt (pe_callB (G.k_len K) (by rfl) T.b_len bt_len (pa_cons (pv 0) pa_nil)) (G.pe_gl T.g_MOST_RANKS) (nomark _)) (pss_one (ps_raise rfl G.takes_cx (k_rz K x_TooMany hr (by decide) (by rfl) (pa_cons (pe_callB (G.k_len K) (by rfl) T.b_len bt_len (pa_cons (pv 0) pa_nil)) pa_nil)))) pss_nil)
      (pss_cons (ps_set (i := 1) nd rfl (Or.inl rfl) pe_dnewK)
      (pss_one (ps_for G.passes_cx rfl (G.k_it K rfl (pv 0)) (pg_name (i := 2) nd rfl (Or.inl rfl)) (pss_cons (ps_if (pt_not (pt_val (k_cal K c_is_rank hr (by decide) G.takes_cx (by rfl) (pa_cons (pv 2) pa_nil)))) (pss_one (ps_raise rfl G.takes_cx (k_rz K x_NoRanks hr (by decide) (by rfl) (pa_cons (pv 2) pa_nil)))) pss_nil)
      (pss_one (ps_for G.passes_cx rfl (G.k_it K rfl (pe_ix (k_ix K (u65 hr)) (pv 2) pe_int (fun _ _ => rfl))) (pg_name (i := 3) nd rfl (Or.inl rfl)) (pss_cons (ps_if (pt_cmpR (k_in K (u65 hr)) (pv 3) (pv 1) (by rfl)) (pss_one (ps_raise rfl G.takes_cx (k_rz K x_NoRanks hr (by decide) (by rfl) (pa_cons (pv 2) pa_nil)))) pss_nil)
      (pss_one (ps_dput hr.units1 (pv 1) (pv 3) pe_bl rfl))))))))))),
    (ss_seq (ss_if (st_not (st_b (se_cb (ca_isi T.isa) (sa_cons se_var (sa_cons (se_tup (sa_cons se_ty (sa_cons se_ty sa_nil))) sa_nil))))) (ss_rz1 (sa_cons se_var sa_nil)) ss_nx)
      (ss_seq (ss_if (st_test (se_op bs_gt (se_cb ca_len (sa_cons se_var sa_nil)) se_int)) (ss_rz1 (sa_cons (se_cb ca_len (sa_cons se_var sa_nil)) sa_nil)) ss_nx)
      (ss_seq (ss_asg se_dKA tg_name)
      (ss_for (si_u se_var) tg_name (ss_seq (ss_if (st_not (st_b (se_call (sa_cons se_var sa_nil)))) (ss_rz1 (sa_cons se_var sa_nil)) ss_nx)
      (ss_for (si_u (se_ix se_var se_int)) tg_name (ss_seq (ss_if (st_test (se_op bs_in se_var se_var)) (ss_rz1 (sa_cons se_var sa_nil)) ss_nx)
      (ss_setD se_bl se_var se_var))))))))⟩)
theorem sc_Grammar_need_heads_b : FnScope ["self", "known", "head", "body", "symbol"] ["self"] (defScope (clsM 30 1)) := ⟨rfl, rfl, rfl, by decide +kernel, rfl, by decide +kernel, by decide +kernel⟩
theorem ok_Grammar_need_heads_b {P : Program} {w : World} {K : PySem.W.Frag} {mg : Str → Option Value} {base : Heap} {kt cs : List Addr} {dv : List V} {f : Addr} {fd : FuncData} (T : Txt K w kt cs mg) (F : FunD K "need_heads" "Grammar.need_heads" (defArgs (clsM 30 1)) (defBody (clsM 30 1)) (defScope (clsM 30 1)) dv [] f fd) (c_is_head : Cal P w K mg base "is_head" 2 ["thing"] (spP K F_is_head)) (mb_heads : MtT P w K mg base "heads" (spB K) tb_heads 1) (x_NoHead : XcC P w K mg base "NoHead" ["self", "head"] (fun C => G.spI C (Str.ofString "head"))) (x_TooMany : XcC P w K mg base "TooMany" ["self", "found"] (fun C => G.spI C (Str.ofString "found"))) (mb_signs : MtT P w K mg base "signs" (spB K) tb_signs 3) : FnOk P w K mg base (L2.CX P w) 4 f fd ["self"] (spB K F_Grammar_need_heads_b) := by
  have nd := sc_Grammar_need_heads_b.nd
  exact okfd_B (body := B_Grammar_need_heads_b) F sc_Grammar_need_heads_b rfl rfl (fun cdv A outer s H EX hr => ⟨_, (pss_cons (ps_set (i := 1) nd rfl (Or.inl rfl) (k_mth0 K mb_heads hr (by decide) G.takes_cx (pv 0)))
      (pss_cons (ps_for G.passes_cx rfl (G.k_it K rfl (G.k_at K (pv 0))) (G.k_tup K rfl rfl (pgs_cons (pg_name (i := 2) nd rfl (Or.inl rfl)) (pgs_cons (pg_name (i := 3) nd rfl (Or.inl rfl)) pgs_nil))) (pss_one (ps_for G.passes_cx rfl (G.k_it K rfl (pv 3)) (pg_name (i := 4) nd rfl (Or.inl rfl)) (pss_one (ps_if (PW.pt (pw_and (pt_val (k_cal K c_is_head hr (by decide) G.takes_cx (by rfl) (pa_cons (pv 4) pa_nil))) (pw_and1 (pt_cmpR (k_ni K (u65 hr)) (pv 4) (pv 1) (by rfl))))) (pss_one (ps_raise rfl G.takes_cx (k_rz K x_NoHead hr (by decide) (by rfl) (pa_cons (pv 4) pa_nil)))) pss_nil)))))
      (pss_cons (ps_if (pt_cmpR G.op_uGt (pe_callB (G.k_len K) (by rfl) T.b_len bt_len (pa_cons (pv 1) pa_nil)) (G.pe_gl T.g_MOST_HEADS) (nomark _)) (pss_one (ps_raise rfl G.takes_cx (k_rz K x_TooMany hr (by decide) (by rfl) (pa_cons (pe_callB (G.k_len K) (by rfl) T.b_len bt_len (pa_cons (pv 1) pa_nil)) pa_nil)))) pss_nil)
      (pss_one (ps_if (pt_cmpR G.op_uGt (pe_callB (G.k_len K) (by rfl) T.b_len bt_len (pa_cons (k_mth0 K mb_signs hr (by decide) G.takes_cx (pv 0)) pa_nil)) (G.pe_gl T.g_MOST_SIGNS) (nomark _)) (pss_one (ps_raise rfl G.takes_cx (k_rz K x_TooMany hr (by decide) (by rfl) (pa_cons (pe_callB (G.k_len K) (by rfl) T.b_len bt_len (pa_cons (k_mth0 K mb_signs hr (by decide) G.takes_cx (pv 0)) pa_nil)) pa_nil)))) pss_nil))))),
    (ss_seq (ss_asg (se_mthB se_var sa_nil ⟨"Grammar", _, _, by rfl, T.a_Grammar⟩ (MtT.cls K mb_heads)) tg_name)
      (ss_seq (ss_for (si_u (se_at T.fld se_var)) (tg_tup (tgs_cons tg_name (tgs_cons tg_name tgs_nil))) (ss_for (si_u se_var) tg_name (ss_if (st_and (st_b (se_call (sa_cons se_var sa_nil))) (st_test (se_op bs_ni se_var se_var))) (ss_rz1 (sa_cons se_var sa_nil)) ss_nx)))
      (ss_seq (ss_if (st_test (se_op bs_gt (se_cb ca_len (sa_cons se_var sa_nil)) se_int)) (ss_rz1 (sa_cons (se_cb ca_len (sa_cons se_var sa_nil)) sa_nil)) ss_nx)
      (ss_if (st_test (se_op bs_gt (se_cb ca_len (sa_cons (se_mthB se_var sa_nil ⟨"Grammar", _, _, by rfl, T.a_Grammar⟩ (MtT.cls K mb_signs)) sa_nil)) se_int)) (ss_rz1 (sa_cons (se_cb ca_len (sa_cons (se_mthB se_var sa_nil ⟨"Grammar", _, _, by rfl, T.a_Grammar⟩ (MtT.cls K mb_signs)) sa_nil)) sa_nil)) ss_nx))))⟩)
theorem sc_body_in : FnScope ["words", "word"] ["words"] (defScope s_body_in) := ⟨rfl, rfl, rfl, by decide +kernel, rfl, by decide +kernel, by decide +kernel⟩
theorem ok_body_in {P : Program} {w : World} {K : PySem.W.Frag} {mg : Str → Option Value} {base : Heap} {kt cs : List Addr} (T : Txt K w kt cs mg) (F : G.DefAt K mg "body_in" "body_in" s_body_in ["words"]) (c_is_symbol : Cal P w K mg base "is_symbol" 3 ["thing"] (spP K F_is_symbol)) : Cal P w K mg base "body_in" 4 ["words"] (spP K F_body_in) := by
  have nd := sc_body_in.nd
  exact okd_P (body := B_body_in) F sc_body_in rfl rfl (fun f cdv A outer s H EX hr => ⟨_, (pss_cons (ps_if (pt_cmpR (G.k_eq K rfl hr.units) (pv 0) (pe_lst (pa_cons pe_str pa_nil)) (nomark _)) (pss_one (ps_ret (pe_tup pa_nil))) pss_nil)
      (pss_cons (ps_if (PW.pt (pw_or (pt_cmpR (G.k_eq K rfl hr.units) (pv 0) (pe_lst pa_nil) (nomark _)) (pw_or1 (pt_not (pt_val (pe_callB (G.k_all K rfl rfl) (by rfl) T.b_all bt_all (pa_cons (pe_lc (own := [("word", 1)]) rfl nd (G.k_it K rfl (pv 0)) (blkOk_by (N := ["words", "word"]) (sc := defScope s_body_in) (by decide +kernel)) (fun _ _ _ _ _ => (pg_name (i := 1) nd rfl (by first | exact Or.inl rfl | exact Or.inr rfl))) (fun _ _ _ _ _ => pts_nil) (fun _ _ _ _ _ => (k_cal K c_is_symbol hr (by decide) takes0 (by rfl) (pa_cons (pv 1) pa_nil)))) pa_nil))))))) (pss_one (ps_ret pe_non)) pss_nil)
      (pss_one (ps_ret (pe_callTy (G.k_tuple K) (by rfl) T.b_tuple bt_tuple (pa_cons (pv 0) pa_nil)))))),
    (ss_seq (ss_if (st_test (se_op bs_eq se_var (se_lst (sa_cons se_str sa_nil)))) (ss_ret (se_tup sa_nil)) ss_nx)
      (ss_seq (ss_if (st_or (st_test (se_op bs_eq se_var (se_lst sa_nil))) (st_not (st_b (se_cb ca_all (sa_cons (se_lc (si_u se_var) tg_name st_yes (se_call (sa_cons se_var sa_nil))) sa_nil))))) (ss_ret se_non) ss_nx)
      (ss_ret (se_cb ca_tup (sa_cons se_var sa_nil)))))⟩)
theorem sc__law_rules : FnScope ["_law_script", "_law_at", "_law_draws", "_law_names", "_law_signs_here", "_law_rules_here", "_law_head", "_law_body_here", "_law_symbols", "_law_heads_here", "_law_number"] ["_law_script", "_law_at"] (defScope s__law_rules) := ⟨rfl, rfl, rfl, by decide +kernel, rfl, by decide +kernel, by decide +kernel⟩
theorem ok__law_rules {P : Program} {w : World} {K : PySem.W.Frag} {mg : Str → Option Value} {base : Heap} {kt cs : List Addr} (T : Txt K w kt cs mg) (F : G.DefAt K mg "_law_rules" "_law_rules" s__law_rules ["_law_script", "_law_at"]) (c__law_row : Cal P w K mg base "_law_row" 2 ["_law_script", "_law_at", "_law_base", "_law_count"] (spP K F__law_row)) (c__law_heads : Cal P w K mg base "_law_heads" 1 ["_law_cell_here", "_law_many_here"] (spP K F__law_heads)) (c__law_signs : Cal P w K mg base "_law_signs" 1 ["_law_cell_here", "_law_many_here"] (spP K F__law_signs)) (c__law_drawn_rules : Cal P w K mg base "_law_drawn_rules" 3 ["_law_script", "_law_at", "_law_heads_here", "_law_signs_here", "_law_more"] (spP K F__law_drawn_rules)) (c__law_shape : Cal P w K mg base "_law_shape" 1 ["_law_number"] (spP K F__law_shape)) (c__law_symbol : Cal P w K mg base "_law_symbol" 1 ["_law_number", "_law_heads_here", "_law_signs_here"] (spP K F__law_symbol)) : Cal P w K mg base "_law_rules" 4 ["_law_script", "_law_at"] (spP K F__law_rules) := by
  have nd := sc__law_rules.nd
  exact okd_P (body := B__law_rules) F sc__law_rules rfl rfl (fun f cdv A outer s H EX hr => ⟨_, (pss_cons (ps_set (i := 2) nd rfl (Or.inl rfl) (k_cal K c__law_row hr (by decide) G.takes_cx (by rfl) (pa_cons (pv 0) (pa_cons (pv 1) (pa_cons (pe_op G.op_uMul (pe_op G.op_uMul (pe_op G.op_uMul pe_int pe_int) pe_int) pe_int) (pa_cons pe_int pa_nil))))))
      (pss_cons (ps_set (i := 3) nd rfl (Or.inr rfl) (k_cal K c__law_heads hr (by decide) G.takes_cx (by rfl) (pa_cons (pe_ix (k_ix K (u65 hr)) (pv 2) pe_int (fun _ _ => rfl)) (pa_cons pe_int pa_nil))))
      (pss_cons (ps_set (i := 4) nd rfl (Or.inr rfl) (k_cal K c__law_signs hr (by decide) G.takes_cx (by rfl) (pa_cons (pe_ix (k_ix K (u65 hr)) (pv 2) pe_int (fun _ _ => rfl)) (pa_cons pe_int pa_nil))))
      (pss_cons (ps_if (pt_cmpR G.op_uLt (pe_op op_fdivW (pe_ix (k_ix K (u65 hr)) (pv 2) pe_int (fun _ _ => rfl)) pe_int) pe_int (nomark _)) (pss_cons (ps_set (i := 5) nd rfl (Or.inl rfl) (pe_lst pa_nil))
      (pss_cons (ps_for G.passes_cx rfl (G.k_it K rfl (k_cal K c__law_shape hr (by decide) G.takes_cx (by rfl) (pa_cons (pe_ix (k_ix K (u65 hr)) (pv 2) pe_int (fun _ _ => rfl)) pa_nil))) (G.k_tup K rfl rfl (pgs_cons (pg_name (i := 6) nd rfl (Or.inl rfl)) (pgs_cons (pg_name (i := 7) nd rfl (Or.inl rfl)) pgs_nil))) (pss_cons (ps_setLc (i := 8) (own := [("_law_number", 10)]) rfl nd rfl rfl (sw_true rfl rfl rfl (by decide +kernel)) (G.k_it K rfl (pv 7)) (blkOk_by (N := ["_law_script", "_law_at", "_law_draws", "_law_names", "_law_signs_here", "_law_rules_here", "_law_head", "_law_body_here", "_law_symbols", "_law_heads_here", "_law_number"]) (sc := defScope s__law_rules) (by decide +kernel)) (fun _ _ _ _ _ => (pg_name (i := 10) nd rfl (by first | exact Or.inl rfl | exact Or.inr rfl))) (fun _ _ _ _ _ => pts_nil) (fun _ _ _ _ _ => (k_cal K c__law_symbol hr (by decide) takes0 (by rfl) (pa_cons (pv 10) (pa_cons (pv 3) (pa_cons (pv 4) pa_nil))))))
      (pss_one (ps_expr (G.k_bm K rfl PySem.F.plainAttrs_list PySem.F.slot_list_append PySem.F.type_list_append mt_append (pv 5) (pa_cons (pe_tup (pa_cons (pe_ix (k_ix K (u65 hr)) (pv 3) (pv 6) (fun _ _ => rfl)) (pa_cons (pe_callTy (G.k_tuple K) (by rfl) T.b_tuple bt_tuple (pa_cons (pv 8) pa_nil)) pa_nil))) pa_nil))))))
      (pss_one (ps_ret (pv 5))))) pss_nil)
      (pss_cons (ps_set (i := 9) nd rfl (Or.inl rfl) (pe_slice (G.k_sl K) (pv 3) po_none (po_some (pe_op (G.k_add K) pe_int (pe_op op_modN (pe_ix (k_ix K (u65 hr)) (pv 2) pe_int (fun _ _ => rfl)) pe_int)))))
      (pss_one (ps_ret (k_cal K c__law_drawn_rules hr (by decide) G.takes_cx (by rfl) (pa_cons (pv 0) (pa_cons (pe_op (G.k_add K) (pv 1) pe_int) (pa_cons (pv 9) (pa_cons (pe_slice (G.k_sl K) (pv 4) po_none (po_some (pe_op (G.k_add K) pe_int (pe_op op_modN (pe_op op_fdivW (pe_ix (k_ix K (u65 hr)) (pv 2) pe_int (fun _ _ => rfl)) pe_int) pe_int)))) (pa_cons (pe_op op_modN (pe_op op_fdivW (pe_ix (k_ix K (u65 hr)) (pv 2) pe_int (fun _ _ => rfl)) pe_int) pe_int) pa_nil))))))))))))),
    (ss_seq (ss_asg (se_call (sa_cons se_var (sa_cons se_var (sa_cons (se_op bs_mul (se_op bs_mul (se_op bs_mul se_int se_int) se_int) se_int) (sa_cons se_int sa_nil))))) tg_name)
      (ss_seq (ss_asg (se_call (sa_cons (se_ix se_var se_int) (sa_cons se_int sa_nil))) tg_name)
      (ss_seq (ss_asg (se_call (sa_cons (se_ix se_var se_int) (sa_cons se_int sa_nil))) tg_name)
      (ss_seq (ss_if (st_test (se_op bs_lt (se_op bs_div (se_ix se_var se_int) se_int) se_int)) (ss_seq (ss_asg (se_lstA sa_nil) tg_name)
      (ss_seq (ss_for (si_u (se_call (sa_cons (se_ix se_var se_int) sa_nil))) (tg_tup (tgs_cons tg_name (tgs_cons tg_name tgs_nil))) (ss_seq (ss_asg (se_lc (si_u se_var) tg_name st_yes (se_call (sa_cons se_var (sa_cons se_var (sa_cons se_var sa_nil))))) tg_name)
      (ss_drop (se_app se_var (se_tup (sa_cons (se_ix se_var se_var) (sa_cons (se_cb ca_tup (sa_cons se_var sa_nil)) sa_nil)))))))
      (ss_ret (se_fz se_var)))) ss_nx)
      (ss_seq (ss_asg (se_sl ss_slD se_var so_none (so_some (se_op bs_add se_int (se_op bs_mod (se_ix se_var se_int) se_int)))) tg_name)
      (ss_ret (se_call (sa_cons se_var (sa_cons (se_op bs_add se_var se_int) (sa_cons se_var (sa_cons (se_sl ss_slD se_var so_none (so_some (se_op bs_add se_int (se_op bs_mod (se_op bs_div (se_ix se_var se_int) se_int) se_int)))) (sa_cons (se_op bs_mod (se_op bs_div (se_ix se_var se_int) se_int) se_int) sa_nil))))))))))))⟩)
theorem sc_need_rules : FnScope ["rules", "number", "rule"] ["rules"] (defScope s_need_rules) := ⟨rfl, rfl, rfl, by decide +kernel, rfl, by decide +kernel, by decide +kernel⟩
theorem ok_need_rules {P : Program} {w : World} {K : PySem.W.Frag} {mg : Str → Option Value} {base : Heap} {kt cs : List Addr} (T : Txt K w kt cs mg) (F : G.DefAt K mg "need_rules" "need_rules" s_need_rules ["rules"]) (c_is_rule : Cal P w K mg base "is_rule" 4 ["thing"] (spP K F_is_rule)) (x_NoRule : XcC P w K mg base "NoRule" ["self", "found"] (fun C => G.spI C (Str.ofString "found"))) (x_TooMany : XcC P w K mg base "TooMany" ["self", "found"] (fun C => G.spI C (Str.ofString "found"))) (x_Doubled : XcC P w K mg base "Doubled" ["self", "number"] (fun C => G.spI C (Str.ofString "number"))) : Cal P w K mg base "need_rules" 5 ["rules"] (spP K F_need_rules) := by
  have nd := sc_need_rules.nd
  exact okd_P (body := B_need_rules) F sc_need_rules rfl rfl (fun f cdv A outer s H EX hr => ⟨_, (pss_cons (ps_if (pt_not (pt_val (pe_callB (k_isi K) (by rfl) T.b_isinstance bt_isinstance (pa_cons (pv 0) (pa_cons (pe_bltn (v := .ty "list") (by rfl) T.b_list bt_list rfl) pa_nil))))) (pss_one (ps_raise rfl G.takes_cx (k_rz K x_NoRule hr (by decide) (by rfl) (pa_cons (pv 0) pa_nil)))) pss_nil)
      (pss_cons (ps_if (pt_not (pt_chain G.op_uLe G.op_uLe pe_int (pe_callB (G.k_len K) (by rfl) T.b_len bt_len (pa_cons (pv 0) pa_nil)) (G.pe_gl T.g_MOST_RULES))) (pss_one (ps_raise rfl G.takes_cx (k_rz K x_TooMany hr (by decide) (by rfl) (pa_cons (pe_callB (G.k_len K) (by rfl) T.b_len bt_len (pa_cons (pv 0) pa_nil)) pa_nil)))) pss_nil)
      (pss_one (ps_for G.passes_cx rfl (G.k_enum K rfl (by rfl) T.b_enumerate (pa_cons (pv 0) pa_nil)) (G.k_tup K rfl rfl (pgs_cons (pg_name (i := 1) nd rfl (Or.inl rfl)) (pgs_cons (pg_name (i := 2) nd rfl (Or.inl rfl)) pgs_nil))) (pss_cons (ps_if (pt_not (pt_val (k_cal K c_is_rule hr (by decide) G.takes_cx (by rfl) (pa_cons (pv 2) pa_nil)))) (pss_one (ps_raise rfl G.takes_cx (k_rz K x_NoRule hr (by decide) (by rfl) (pa_cons (pv 2) pa_nil)))) pss_nil)
      (pss_one (ps_if (pt_cmpR (k_in K (u65 hr)) (pv 2) (pe_slice (G.k_sl K) (pv 0) po_none (po_some (pv 1))) (by rfl)) (pss_one (ps_raise rfl G.takes_cx (k_rz K x_Doubled hr (by decide) (by rfl) (pa_cons (pv 1) pa_nil)))) pss_nil))))))),
    (ss_seq (ss_if (st_not (st_b (se_cb (ca_isi T.isa) (sa_cons se_var (sa_cons se_ty sa_nil))))) (ss_rz1 (sa_cons se_var sa_nil)) ss_nx)
      (ss_seq (ss_if (st_not (st_test (se_chain bs_le bs_le se_int (se_cb ca_len (sa_cons se_var sa_nil)) se_int))) (ss_rz1 (sa_cons (se_cb ca_len (sa_cons se_var sa_nil)) sa_nil)) ss_nx)
      (ss_for (si_enum (sa_cons se_var sa_nil)) (tg_tup (tgs_cons tg_name (tgs_cons tg_name tgs_nil))) (ss_seq (ss_if (st_not (st_b (se_call (sa_cons se_var sa_nil)))) (ss_rz1 (sa_cons se_var sa_nil)) ss_nx)
      (ss_if (st_test (se_op bs_in se_var (se_sl ss_slD se_var so_none (so_some se_var)))) (ss_rz1 (sa_cons se_var sa_nil)) ss_nx)))))⟩)
theorem sc_rules_in : FnScope ["row", "words", "bodies", "some", "body"] ["row"] (defScope s_rules_in) := ⟨rfl, rfl, rfl, by decide +kernel, rfl, by decide +kernel, by decide +kernel⟩
theorem ok_rules_in {P : Program} {w : World} {K : PySem.W.Frag} {mg : Str → Option Value} {base : Heap} {kt cs : List Addr} (T : Txt K w kt cs mg) (F : G.DefAt K mg "rules_in" "rules_in" s_rules_in ["row"]) (c_body_in : Cal P w K mg base "body_in" 4 ["words"] (spP K F_body_in)) (c_is_head : Cal P w K mg base "is_head" 2 ["thing"] (spP K F_is_head)) (c_parted_words : Cal P w K mg base "parted_words" 1 ["words"] (spP K F_parted_words)) : Cal P w K mg base "rules_in" 5 ["row"] (spP K F_rules_in) := by
  have nd := sc_rules_in.nd
  exact okd_P (body := B_rules_in) F sc_rules_in rfl rfl (fun f cdv A outer s H EX hr => ⟨_, (pss_cons (ps_set (i := 1) nd rfl (Or.inr rfl) (pe_split (pv 0) pe_str))
      (pss_cons (ps_if (PW.pt (pw_or (pt_cmpR G.op_uLt (pe_callB (G.k_len K) (by rfl) T.b_len bt_len (pa_cons (pv 1) pa_nil)) pe_int (nomark _)) (pw_or (pt_not (pt_val (k_cal K c_is_head hr (by decide) G.takes_cx (by rfl) (pa_cons (pe_ix (k_ix K (u65 hr)) (pv 1) pe_int (fun _ _ => rfl)) pa_nil)))) (pw_or1 (pt_cmpR (G.k_ne K rfl hr.units) (pe_ix (k_ix K (u65 hr)) (pv 1) pe_int (fun _ _ => rfl)) pe_str (nomark _)))))) (pss_one (ps_ret pe_non)) pss_nil)
      (pss_cons (ps_setLc (i := 2) (own := [("some", 3)]) rfl nd rfl rfl (sw_true rfl rfl rfl (by decide +kernel)) (G.k_it K rfl (k_cal K c_parted_words hr (by decide) G.takes_cx (by rfl) (pa_cons (pe_slice (G.k_sl K) (pv 1) (po_some pe_int) po_none) pa_nil))) (blkOk_by (N := ["row", "words", "bodies", "some", "body"]) (sc := defScope s_rules_in) (by decide +kernel)) (fun _ _ _ _ _ => (pg_name (i := 3) nd rfl (by first | exact Or.inl rfl | exact Or.inr rfl))) (fun _ _ _ _ _ => pts_nil) (fun _ _ _ _ _ => (k_cal K c_body_in hr (by decide) takes0 (by rfl) (pa_cons (pv 3) pa_nil))))
      (pss_cons (ps_if (pt_cmpR (k_in K (u65 hr)) pe_non (pv 2) (by rfl)) (pss_one (ps_ret pe_non)) pss_nil)
      (pss_one (ps_ret (pe_lc (own := [("body", 4)]) rfl nd (G.k_it K rfl (pv 2)) (blkOk_by (N := ["row", "words", "bodies", "some", "body"]) (sc := defScope s_rules_in) (by decide +kernel)) (fun _ _ _ _ _ => (pg_name (i := 4) nd rfl (by first | exact Or.inl rfl | exact Or.inr rfl))) (fun _ _ _ _ _ => pts_nil) (fun _ _ _ _ _ => (pe_tup (pa_cons (pe_ix (k_ix K (u65 hr)) (pv 1) pe_int (fun _ _ => rfl)) (pa_cons (pv 4) pa_nil))))))))))),
    (ss_seq (ss_asg (se_m1 (BinF.s bf_split) se_var se_str) tg_name)
      (ss_seq (ss_if (st_or (st_test (se_op bs_lt (se_cb ca_len (sa_cons se_var sa_nil)) se_int)) (st_or (st_not (st_b (se_call (sa_cons (se_ix se_var se_int) sa_nil)))) (st_test (se_op bs_ne (se_ix se_var se_int) se_str)))) (ss_ret se_non) ss_nx)
      (ss_seq (ss_asg (se_lc (si_u (se_call (sa_cons (se_sl ss_slD se_var (so_some se_int) so_none) sa_nil))) tg_name st_yes (se_call (sa_cons se_var sa_nil))) tg_name)
      (ss_seq (ss_if (st_test (se_op bs_in se_non se_var)) (ss_ret se_non) ss_nx)
      (ss_ret (se_lc (si_u se_var) tg_name st_yes (se_tup (sa_cons (se_ix se_var se_int) (sa_cons se_var sa_nil)))))))))⟩)
theorem sc_Grammar_init : FnScope ["self", "rules", "ranks"] ["self", "rules", "ranks"] (defScope (clsM 30 0)) := ⟨rfl, rfl, rfl, by decide +kernel, rfl, by decide +kernel, by decide +kernel⟩
theorem ok_Grammar_init {P : Program} {w : World} {K : PySem.W.Frag} {mg : Str → Option Value} {base : Heap} {kt cs : List Addr} {dv : List V} {f : Addr} {fd : FuncData} (T : Txt K w kt cs mg) (F : FunD K "__init__" "Grammar.__init__" (defArgs (clsM 30 0)) (defBody (clsM 30 0)) (defScope (clsM 30 0)) dv [] f fd) (c_need_rules : Cal P w K mg base "need_rules" 5 ["rules"] (spP K F_need_rules)) (c_need_ranks : Cal P w K mg base "need_ranks" 4 ["ranks"] (spP K F_need_ranks)) (mb_need_heads : MtT P w K mg base "need_heads" (spB K) tb_need_heads 4) : FnOk P w K mg base (L2.CX P w) 6 f fd ["self", "rules", "ranks"] (spB K F_Grammar_init) := by
  have nd := sc_Grammar_init.nd
  exact okfd_B (body := B_Grammar_init) F sc_Grammar_init rfl rfl (fun cdv A outer s H EX hr => ⟨_, (pss_cons (ps_expr (k_cal K c_need_rules hr (by decide) G.takes_cx (by rfl) (pa_cons (pv 1) pa_nil)))
      (pss_cons (G.k_setf K (pv 0) (pe_callTy (G.k_tuple K) (by rfl) T.b_tuple bt_tuple (pa_cons (pv 1) pa_nil)))
      (pss_cons (G.k_setf K (pv 0) (pe_ix (k_ix K (u65 hr)) (pe_ix (k_ix K (u65 hr)) (G.k_at K (pv 0)) pe_int (fun _ _ => rfl)) pe_int (fun _ _ => rfl)))
      (pss_cons (ps_expr (k_mth0 K mb_need_heads hr (by decide) G.takes_cx (pv 0)))
      (pss_cons (ps_if (pt_cmpR op_isN (pv 2) pe_non (nomark _)) (pss_one (ps_set (i := 2) nd rfl (Or.inl rfl) (pe_tup pa_nil))) pss_nil)
      (pss_cons (ps_expr (k_cal K c_need_ranks hr (by decide) G.takes_cx (by rfl) (pa_cons (pv 2) pa_nil)))
      (pss_one (G.k_setf K (pv 0) (pe_callTy (G.k_tuple K) (by rfl) T.b_tuple bt_tuple (pa_cons (pv 2) pa_nil)))))))))),
    (ss_seq (ss_drop (se_call (sa_cons se_var sa_nil)))
      (ss_seq (ss_setF T.fld (se_cb ca_tup (sa_cons se_var sa_nil)) se_var)
      (ss_seq (ss_setF T.fld (se_ix (se_ix (se_at T.fld se_var) se_int) se_int) se_var)
      (ss_seq (ss_drop (se_mthB se_var sa_nil ⟨"Grammar", _, _, by rfl, T.a_Grammar⟩ (MtT.cls K mb_need_heads)))
      (ss_seq (ss_if (st_test (se_op bs_isN se_var se_non)) (ss_asg (se_tup sa_nil) tg_name) ss_nx)
      (ss_seq (ss_drop (se_call (sa_cons se_var sa_nil)))
      (ss_setF T.fld (se_cb ca_tup (sa_cons se_var sa_nil)) se_var)))))))⟩)
theorem sc_read_grammar : FnScope ["text", "rules", "ranks", "line", "row", "rank", "some"] ["text"] (defScope s_read_grammar) := ⟨rfl, rfl, rfl, by decide +kernel, rfl, by decide +kernel, by decide +kernel⟩
theorem ok_read_grammar {P : Program} {w : World} {K : PySem.W.Frag} {mg : Str → Option Value} {base : Heap} {kt cs : List Addr} (T : Txt K w kt cs mg) (F : G.DefAt K mg "read_grammar" "read_grammar" s_read_grammar ["text"]) (c_rank_in : Cal P w K mg base "rank_in" 3 ["row"] (spP K F_rank_in)) (c_rules_in : Cal P w K mg base "rules_in" 5 ["row"] (spP K F_rules_in)) (x_NoText : XcC P w K mg base "NoText" ["self", "line"] (fun C => G.spI C (Str.ofString "line"))) (i_Grammar_2 : MkC P w K mg base "Grammar" 6 ["self", "rules", "ranks"] [] (spB K F_Grammar_init)) : Cal P w K mg base "read_grammar" 8 ["text"] (spP K F_read_grammar) := by
  have nd := sc_read_grammar.nd
  exact okd_P (body := B_read_grammar) F sc_read_grammar rfl rfl (fun f cdv A outer s H EX hr => ⟨_, (pss_cons (ps_if (pt_not (pt_val (pe_callB (k_isi K) (by rfl) T.b_isinstance bt_isinstance (pa_cons (pv 0) (pa_cons (pe_bltn (v := .ty "str") (by rfl) T.b_str bt_str rfl) pa_nil))))) (pss_one (ps_raise rfl G.takes_cx (k_rz K x_NoText hr (by decide) (by rfl) (pa_cons pe_int pa_nil)))) pss_nil)
      (pss_cons (ps_set (i := 1) nd rfl (Or.inl rfl) (pe_lst pa_nil))
      (pss_cons (ps_set (i := 2) nd rfl (Or.inl rfl) (pe_lst pa_nil))
      (pss_cons (ps_for G.passes_cx rfl (G.k_enum K rfl (by rfl) T.b_enumerate (pa_cons (pe_split (pv 0) pe_str) pa_nil)) (G.k_tup K rfl rfl (pgs_cons (pg_name (i := 3) nd rfl (Or.inl rfl)) (pgs_cons (pg_name (i := 4) nd rfl (Or.inl rfl)) pgs_nil))) (pss_cons (ps_set (i := 5) nd rfl (Or.inl rfl) (k_cal K c_rank_in hr (by decide) G.takes_cx (by rfl) (pa_cons (pv 4) pa_nil)))
      (pss_cons (ps_set (i := 6) nd rfl (Or.inl rfl) (k_cal K c_rules_in hr (by decide) G.takes_cx (by rfl) (pa_cons (pv 4) pa_nil)))
      (pss_one (ps_if (PW.pt (pw_and (pt_cmpR op_notN (pv 5) pe_non (nomark _)) (pw_and1 (pt_cmpR (G.k_eq K rfl hr.units) (pv 1) (pe_lst pa_nil) (nomark _))))) (pss_one (ps_expr (G.k_bm K rfl PySem.F.plainAttrs_list PySem.F.slot_list_append PySem.F.type_list_append mt_append (pv 2) (pa_cons (pv 5) pa_nil)))) (pss_one (ps_if (pt_cmpR op_notN (pv 6) pe_non (nomark _)) (pss_one (ps_expr (G.k_bm K rfl PySem.F.plainAttrs_list PySem.F.slot_list_extend PySem.F.type_list_extend mt_extend (pv 1) (pa_cons (pv 6) pa_nil)))) (pss_one (ps_raise rfl G.takes_cx (k_rz K x_NoText hr (by decide) (by rfl) (pa_cons (pv 3) pa_nil)))))))))))
      (pss_one (ps_ret (k_mk K i_Grammar_2 hr (by decide) G.takes_cx (by rfl) (pa_cons (pv 1) (pa_cons (pv 2) pa_nil))))))))),
    (ss_seq (ss_if (st_not (st_b (se_cb (ca_isi T.isa) (sa_cons se_var (sa_cons se_ty sa_nil))))) (ss_rz1 (sa_cons se_int sa_nil)) ss_nx)
      (ss_seq (ss_asg (se_lstA sa_nil) tg_name)
      (ss_seq (ss_asg (se_lstA sa_nil) tg_name)
      (ss_seq (ss_for (si_enum (sa_cons (se_m1 (BinF.s bf_split) se_var se_str) sa_nil)) (tg_tup (tgs_cons tg_name (tgs_cons tg_name tgs_nil))) (ss_seq (ss_asg (se_call (sa_cons se_var sa_nil)) tg_name)
      (ss_seq (ss_asg (se_call (sa_cons se_var sa_nil)) tg_name)
      (ss_if (st_and (st_test (se_op bs_nnN se_var se_non)) (st_test (se_op bs_eq se_var (se_lst sa_nil)))) (ss_drop (se_app se_var se_var)) (ss_if (st_test (se_op bs_nnN se_var se_non)) (ss_drop (se_mt ms_extend se_var (sa_cons se_var sa_nil))) (ss_rz1 (sa_cons se_var sa_nil)))))))
      (ss_ret (se_fz (se_make (dds := []) (fun _ => .nil) (sa_cons (se_fz se_var) (sa_cons (se_fz se_var) sa_nil)))))))))⟩)
theorem sc_law : FnScope ["_law_script", "_law_rules_here", "_law_ranks_here", "_law_way", "_law_shown", "_law_at", "_law_text_here"] ["_law_script"] (defScope s_law) := ⟨rfl, rfl, rfl, by decide +kernel, rfl, by decide +kernel, by decide +kernel⟩
theorem ok_law {P : Program} {w : World} {K : PySem.W.Frag} {mg : Str → Option Value} {base : Heap} {kt cs : List Addr} (T : Txt K w kt cs mg) (F : G.DefAt K mg "law" "law" s_law ["_law_script"]) (c__law_rules : Cal P w K mg base "_law_rules" 4 ["_law_script", "_law_at"] (spP K F__law_rules)) (c__law_ranks : Cal P w K mg base "_law_ranks" 3 ["_law_script", "_law_at"] (spP K F__law_ranks)) (c__law_text : Cal P w K mg base "_law_text" 2 ["_law_rules_here", "_law_ranks_here", "_law_parts"] (spP K F__law_text)) (c__law_right : Cal P w K mg base "_law_right" 3 ["_law_grammar", "_law_rules_here", "_law_ranks_here", "_law_shown"] (spP K F__law_right)) (c__law_row : Cal P w K mg base "_law_row" 2 ["_law_script", "_law_at", "_law_base", "_law_count"] (spP K F__law_row)) (c_read_grammar : Cal P w K mg base "read_grammar" 8 ["text"] (spP K F_read_grammar)) (c__law_many : Cal P w K mg base "_law_many" 1 ["_law_rules_here", "_law_many_here"] (spP K F__law_many)) (i_Grammar_2 : MkC P w K mg base "Grammar" 6 ["self", "rules", "ranks"] [] (spB K F_Grammar_init)) : Cal P w K mg base "law" 9 ["_law_script"] (spP K F_law) := by
  have nd := sc_law.nd
  exact okd_P (body := B_law) F sc_law rfl rfl (fun f cdv A outer s H EX hr => ⟨_, (pss_cons (ps_set (i := 1) nd rfl (Or.inl rfl) (k_cal K c__law_rules hr (by decide) G.takes_cx (by rfl) (pa_cons (pv 0) (pa_cons pe_int pa_nil))))
      (pss_cons (ps_set (i := 2) nd rfl (Or.inl rfl) (k_cal K c__law_ranks hr (by decide) G.takes_cx (by rfl) (pa_cons (pv 0) (pa_cons pe_int pa_nil))))
      (pss_cons (ps_set (i := 3) nd rfl (Or.inl rfl) (pe_ix (k_ix K (u65 hr)) (k_cal K c__law_row hr (by decide) G.takes_cx (by rfl) (pa_cons (pv 0) (pa_cons pe_int (pa_cons (pe_op G.op_uMul pe_int pe_int) (pa_cons pe_int pa_nil))))) pe_int (fun _ _ => rfl)))
      (pss_cons (ps_if (pt_cmpR (G.k_eq K rfl hr.units) (pe_op op_modN (pv 3) pe_int) pe_int (nomark _)) (pss_one (ps_set (i := 1) nd rfl (Or.inl rfl) (pe_slice (G.k_sl K) (k_cal K c__law_many hr (by decide) G.takes_cx (by rfl) (pa_cons (pv 1) (pa_cons (pe_op op_modN (pe_op op_fdivW (pv 3) pe_int) pe_int) pa_nil))) po_none (po_some pe_int)))) pss_nil)
      (pss_cons (ps_set (i := 4) nd rfl (Or.inl rfl) (k_cal K c__law_text hr (by decide) G.takes_cx (by rfl) (pa_cons (pv 1) (pa_cons (pv 2) (pa_cons (pe_op G.op_uMul (pe_lst (pa_cons pe_int pa_nil)) pe_int) pa_nil)))))
      (pss_cons (ps_for G.passes_cx rfl (pi_range2 (by rfl) T.b_range (pa_cons pe_int (pa_cons (pe_callB (call_max2 rfl) (by rfl) T.b_max bt_max (pa_cons pe_int (pa_cons (pe_callB (call_min2 rfl) (by rfl) T.b_min bt_min (pa_cons (pe_callB (G.k_len K) (by rfl) T.b_len bt_len (pa_cons (pv 0) pa_nil)) (pa_cons pe_int pa_nil))) pa_nil))) pa_nil))) (pg_name (i := 5) nd rfl (Or.inl rfl)) (pss_cons (ps_set (i := 6) nd rfl (Or.inl rfl) (k_cal K c__law_text hr (by decide) G.takes_cx (by rfl) (pa_cons (pv 1) (pa_cons (pv 2) (pa_cons (k_cal K c__law_row hr (by decide) G.takes_cx (by rfl) (pa_cons (pv 0) (pa_cons (pv 5) (pa_cons pe_int (pa_cons pe_int pa_nil))))) pa_nil)))))
      (pss_one (ps_if (pt_not (pt_val (k_cal K c__law_right hr (by decide) G.takes_cx (by rfl) (pa_cons (k_cal K c_read_grammar hr (by decide) G.takes_cx (by rfl) (pa_cons (pv 6) pa_nil)) (pa_cons (pv 1) (pa_cons (pv 2) (pa_cons (pv 4) pa_nil))))))) (pss_one (ps_ret pe_bl)) pss_nil))))
      (pss_cons (ps_if (pt_not (pt_val (k_cal K c__law_right hr (by decide) G.takes_cx (by rfl) (pa_cons (k_mk K i_Grammar_2 hr (by decide) G.takes_cx (by rfl) (pa_cons (pe_callTy (G.k_list K) (by rfl) T.b_list bt_list (pa_cons (pv 1) pa_nil)) (pa_cons (pe_callTy (G.k_tuple K) (by rfl) T.b_tuple bt_tuple (pa_cons (pv 2) pa_nil)) pa_nil))) (pa_cons (pv 1) (pa_cons (pv 2) (pa_cons (pv 4) pa_nil))))))) (pss_one (ps_ret pe_bl)) pss_nil)
      (pss_one (ps_ret (k_cal K c__law_right hr (by decide) G.takes_cx (by rfl) (pa_cons (k_cal K c_read_grammar hr (by decide) G.takes_cx (by rfl) (pa_cons (pv 4) pa_nil)) (pa_cons (pv 1) (pa_cons (pv 2) (pa_cons (pv 4) pa_nil)))))))))))))),
    (ss_seq (ss_asg (se_call (sa_cons se_var (sa_cons se_int sa_nil))) tg_name)
      (ss_seq (ss_asg (se_call (sa_cons se_var (sa_cons se_int sa_nil))) tg_name)
      (ss_seq (ss_asg (se_ix (se_call (sa_cons se_var (sa_cons se_int (sa_cons (se_op bs_mul se_int se_int) (sa_cons se_int sa_nil))))) se_int) tg_name)
      (ss_seq (ss_if (st_test (se_op bs_eq (se_op bs_mod se_var se_int) se_int)) (ss_asg (se_sl ss_slD (se_call (sa_cons se_var (sa_cons (se_op bs_mod (se_op bs_div se_var se_int) se_int) sa_nil))) so_none (so_some se_int)) tg_name) ss_nx)
      (ss_seq (ss_asg (se_call (sa_cons se_var (sa_cons se_var (sa_cons (se_op bs_mul (se_lst (sa_cons se_int sa_nil)) se_int) sa_nil)))) tg_name)
      (ss_seq (ss_for (si_rng2 (sa_cons se_int (sa_cons (se_cb ca_max2 (sa_cons se_int (sa_cons (se_cb ca_min2 (sa_cons (se_cb ca_len (sa_cons se_var sa_nil)) (sa_cons se_int sa_nil))) sa_nil))) sa_nil))) tg_name (ss_seq (ss_asg (se_call (sa_cons se_var (sa_cons se_var (sa_cons (se_call (sa_cons se_var (sa_cons se_var (sa_cons se_int (sa_cons se_int sa_nil))))) sa_nil)))) tg_name)
      (ss_if (st_not (st_b (se_call (sa_cons (se_call (sa_cons se_var sa_nil)) (sa_cons se_var (sa_cons se_var (sa_cons se_var sa_nil))))))) (ss_ret se_bl) ss_nx)))
      (ss_seq (ss_if (st_not (st_b (se_call (sa_cons (se_fz (se_make (dds := []) (fun _ => .nil) (sa_cons (se_cb (CaF.s cf_list) (sa_cons se_var sa_nil)) (sa_cons (se_cb ca_tup (sa_cons se_var sa_nil)) sa_nil)))) (sa_cons se_var (sa_cons se_var (sa_cons se_var sa_nil))))))) (ss_ret se_bl) ss_nx)
      (ss_ret (se_call (sa_cons (se_call (sa_cons se_var sa_nil)) (sa_cons se_var (sa_cons se_var (sa_cons se_var sa_nil)))))))))))))⟩)
theorem all_mk {l : PySem.W.OpenLaw} {w : World} {K : PySem.W.Frag} {h : Heap} {mg : Str → Option Value} {fa : Addr} (X : K.In h) (GX : h.Ns mainGlobals mg) (hfa : mg "law" = some (.ref fa))
    {od0 an0 : Option Addr} {sl0 : Array (Option Value)} {oc0 kV0 dc0 pm0 cd0 ct0 : Value} {f0 : Addr}
    {od1 an1 : Option Addr} {sl1 : Array (Option Value)} {oc1 kV1 dc1 pm1 cd1 ct1 : Value} {f1 : Addr}
    {od2 an2 : Option Addr} {sl2 : Array (Option Value)} {oc2 kV2 dc2 pm2 cd2 ct2 : Value} {f2 : Addr}
    {od3 an3 : Option Addr} {sl3 : Array (Option Value)} {oc3 kV3 dc3 pm3 cd3 ct3 : Value} {f3 : Addr}
    {od4 an4 : Option Addr} {sl4 : Array (Option Value)} {oc4 kV4 dc4 pm4 cd4 ct4 : Value} {f4 : Addr}
    {od5 an5 : Option Addr} {sl5 : Array (Option Value)} {oc5 kV5 dc5 pm5 cd5 ct5 : Value} {f5 : Addr}
    {od6 an6 : Option Addr} {sl6 : Array (Option Value)} {oc6 kV6 dc6 pm6 cd6 ct6 : Value} {f6 : Addr}
    {od7 an7 : Option Addr} {sl7 : Array (Option Value)} {oc7 kV7 dc7 pm7 cd7 ct7 : Value} {f7 : Addr}
    {od8 an8 : Option Addr} {sl8 : Array (Option Value)} {oc8 kV8 dc8 pm8 cd8 ct8 : Value} {f8 : Addr}
    {od9 an9 : Option Addr} {sl9 : Array (Option Value)} {oc9 kV9 dc9 pm9 cd9 ct9 : Value} {f9 : Addr}
    {od10 an10 : Option Addr} {sl10 : Array (Option Value)} {oc10 kV10 dc10 pm10 cd10 ct10 : Value} {f10 : Addr}
    {od11 an11 : Option Addr} {sl11 : Array (Option Value)} {oc11 kV11 dc11 pm11 cd11 ct11 : Value} {f11 : Addr}
    {od12 an12 : Option Addr} {sl12 : Array (Option Value)} {oc12 kV12 dc12 pm12 cd12 ct12 : Value} {f12 : Addr}
    {od13 an13 : Option Addr} {sl13 : Array (Option Value)} {oc13 kV13 dc13 pm13 cd13 ct13 : Value} {f13 : Addr}
    {od14 an14 : Option Addr} {sl14 : Array (Option Value)} {oc14 kV14 dc14 pm14 cd14 ct14 : Value} {f14 : Addr}
    {od15 an15 : Option Addr} {sl15 : Array (Option Value)} {oc15 kV15 dc15 pm15 cd15 ct15 : Value} {f15 : Addr}
    {od16 an16 : Option Addr} {sl16 : Array (Option Value)} {oc16 kV16 dc16 pm16 cd16 ct16 : Value} {f16 : Addr}
    {od17 an17 : Option Addr} {sl17 : Array (Option Value)} {oc17 kV17 dc17 pm17 cd17 ct17 : Value} {f17 : Addr}
    {od18 an18 : Option Addr} {sl18 : Array (Option Value)} {oc18 kV18 dc18 pm18 cd18 ct18 : Value} {f18 : Addr}
    {od19 an19 : Option Addr} {sl19 : Array (Option Value)} {oc19 kV19 dc19 pm19 cd19 ct19 : Value} {f19 : Addr}
    {od20 an20 : Option Addr} {sl20 : Array (Option Value)} {oc20 kV20 dc20 pm20 cd20 ct20 : Value} {f20 : Addr}
    {od21 an21 : Option Addr} {sl21 : Array (Option Value)} {oc21 kV21 dc21 pm21 cd21 ct21 : Value} {f21 : Addr}
    {od22 an22 : Option Addr} {sl22 : Array (Option Value)} {oc22 kV22 dc22 pm22 cd22 ct22 : Value} {f22 : Addr}
    {od23 an23 : Option Addr} {sl23 : Array (Option Value)} {oc23 kV23 dc23 pm23 cd23 ct23 : Value} {f23 : Addr}
    {od24 an24 : Option Addr} {sl24 : Array (Option Value)} {oc24 kV24 dc24 pm24 cd24 ct24 : Value} {f24 : Addr}
    {od25 an25 : Option Addr} {sl25 : Array (Option Value)} {oc25 kV25 dc25 pm25 cd25 ct25 : Value} {f25 : Addr}
    {od26 an26 : Option Addr} {sl26 : Array (Option Value)} {oc26 kV26 dc26 pm26 cd26 ct26 : Value} {f26 : Addr}
    {od27 an27 : Option Addr} {sl27 : Array (Option Value)} {oc27 kV27 dc27 pm27 cd27 ct27 : Value} {f27 : Addr}
    {od28 an28 : Option Addr} {sl28 : Array (Option Value)} {oc28 kV28 dc28 pm28 cd28 ct28 : Value} {f28 : Addr}
    {od29 an29 : Option Addr} {sl29 : Array (Option Value)} {oc29 kV29 dc29 pm29 cd29 ct29 : Value} {f29 : Addr}
    {od30 an30 : Option Addr} {sl30 : Array (Option Value)} {oc30 kV30 dc30 pm30 cd30 ct30 : Value} {f30 : Addr}
    {xC0 : Addr}
    {xC1 : Addr}
    {xf1 xN1 : Addr} {xod1 xan1 xdd1 : Option Addr} {xsl1 : Array (Option Value)} {xoc1 xkV1 xdc1 xpm1 xcd1 xct1 : Value} {xnm1 xq1 : Str} {xbs1 xbm1 : List Value} {xsn1 : List Str} {xsub1 : List Value} {xab1 : Bool} {xcol1 : Option Bool} {xk01 xk11 xk21 xk31 xk51 : Option Value}
    {xC2 : Addr}
    {xf2 xN2 : Addr} {xod2 xan2 xdd2 : Option Addr} {xsl2 : Array (Option Value)} {xoc2 xkV2 xdc2 xpm2 xcd2 xct2 : Value} {xnm2 xq2 : Str} {xbs2 xbm2 : List Value} {xsn2 : List Str} {xsub2 : List Value} {xab2 : Bool} {xcol2 : Option Bool} {xk02 xk12 xk22 xk32 xk52 : Option Value}
    {xC3 : Addr}
    {xf3 xN3 : Addr} {xod3 xan3 xdd3 : Option Addr} {xsl3 : Array (Option Value)} {xoc3 xkV3 xdc3 xpm3 xcd3 xct3 : Value} {xnm3 xq3 : Str} {xbs3 xbm3 : List Value} {xsn3 : List Str} {xsub3 : List Value} {xab3 : Bool} {xcol3 : Option Bool} {xk03 xk13 xk23 xk33 xk53 : Option Value}
    {xC4 : Addr}
    {xf4 xN4 : Addr} {xod4 xan4 xdd4 : Option Addr} {xsl4 : Array (Option Value)} {xoc4 xkV4 xdc4 xpm4 xcd4 xct4 : Value} {xnm4 xq4 : Str} {xbs4 xbm4 : List Value} {xsn4 : List Str} {xsub4 : List Value} {xab4 : Bool} {xcol4 : Option Bool} {xk04 xk14 xk24 xk34 xk54 : Option Value}
    {xC5 : Addr}
    {xf5 xN5 : Addr} {xod5 xan5 xdd5 : Option Addr} {xsl5 : Array (Option Value)} {xoc5 xkV5 xdc5 xpm5 xcd5 xct5 : Value} {xnm5 xq5 : Str} {xbs5 xbm5 : List Value} {xsn5 : List Str} {xsub5 : List Value} {xab5 : Bool} {xcol5 : Option Bool} {xk05 xk15 xk25 xk35 xk55 : Option Value}
    {xC6 : Addr}
    {xf6 xN6 : Addr} {xod6 xan6 xdd6 : Option Addr} {xsl6 : Array (Option Value)} {xoc6 xkV6 xdc6 xpm6 xcd6 xct6 : Value} {xnm6 xq6 : Str} {xbs6 xbm6 : List Value} {xsn6 : List Str} {xsub6 : List Value} {xab6 : Bool} {xcol6 : Option Bool} {xk06 xk16 xk26 xk36 xk56 : Option Value}
    {xC7 : Addr}
    {mod0 man0 : Option Addr} {msl0 : Array (Option Value)} {moc0 mkV0 mdc0 mpm0 mcd0 mct0 : Value} {mf0 : Addr}
    {mT0 : Addr} {mTc0 : Value} {mTd0 : Option Addr} {mTn0 : Nat} {mTs0 : Array (Option Value)}
    {mod1 man1 : Option Addr} {msl1 : Array (Option Value)} {moc1 mkV1 mdc1 mpm1 mcd1 mct1 : Value} {mf1 : Addr}
    {mod2 man2 : Option Addr} {msl2 : Array (Option Value)} {moc2 mkV2 mdc2 mpm2 mcd2 mct2 : Value} {mf2 : Addr}
    {mod3 man3 : Option Addr} {msl3 : Array (Option Value)} {moc3 mkV3 mdc3 mpm3 mcd3 mct3 : Value} {mf3 : Addr}
    {t_FIGURES : Tok}
    {t_GREAT : Tok}
    {t_LONGEST : Tok}
    {t_MOST_HEADS : Tok}
    {t_MOST_IN_BODY : Tok}
    {t_MOST_RANKS : Tok}
    {t_MOST_RULES : Tok}
    {t_MOST_SIGNS : Tok}
    {t_OTHERS : Tok}
    {ka_SIDES : Addr} {kod_SIDES : Option Addr} {kn_SIDES : Nat} {ksl_SIDES : Array (Option Value)} {kt_SIDES0 kt_SIDES1 kt_SIDES2 : Tok}
    {t_SMALL : Tok}
    (a0 : PySem.W.nsIn K mainGlobals "_wall" = some (some (.ref f0))) (l0 : K.lookup f0 = some ⟨oc0, od0, .func (PySem.W.fnOf "_wall" "_wall" (defArgs s__wall) (defBody s__wall) (defScope s__wall) .none kV0 dc0 pm0 an0 cd0 ct0), sl0⟩) (c0 : PySem.W.codeIn K cd0 "_wall" = true) (k0 : PySem.W.keepIn K (.ref f0) = true)
    (a1 : PySem.W.nsIn K mainGlobals "is_made_of" = some (some (.ref f1))) (l1 : K.lookup f1 = some ⟨oc1, od1, .func (PySem.W.fnOf "is_made_of" "is_made_of" (defArgs s_is_made_of) (defBody s_is_made_of) (defScope s_is_made_of) .none kV1 dc1 pm1 an1 cd1 ct1), sl1⟩) (c1 : PySem.W.codeIn K cd1 "is_made_of" = true) (k1 : PySem.W.keepIn K (.ref f1) = true)
    (a2 : PySem.W.nsIn K mainGlobals "is_sign" = some (some (.ref f2))) (l2 : K.lookup f2 = some ⟨oc2, od2, .func (PySem.W.fnOf "is_sign" "is_sign" (defArgs s_is_sign) (defBody s_is_sign) (defScope s_is_sign) .none kV2 dc2 pm2 an2 cd2 ct2), sl2⟩) (c2 : PySem.W.codeIn K cd2 "is_sign" = true) (k2 : PySem.W.keepIn K (.ref f2) = true)
    (a3 : PySem.W.nsIn K mainGlobals "is_head" = some (some (.ref f3))) (l3 : K.lookup f3 = some ⟨oc3, od3, .func (PySem.W.fnOf "is_head" "is_head" (defArgs s_is_head) (defBody s_is_head) (defScope s_is_head) .none kV3 dc3 pm3 an3 cd3 ct3), sl3⟩) (c3 : PySem.W.codeIn K cd3 "is_head" = true) (k3 : PySem.W.keepIn K (.ref f3) = true)
    (a4 : PySem.W.nsIn K mainGlobals "is_symbol" = some (some (.ref f4))) (l4 : K.lookup f4 = some ⟨oc4, od4, .func (PySem.W.fnOf "is_symbol" "is_symbol" (defArgs s_is_symbol) (defBody s_is_symbol) (defScope s_is_symbol) .none kV4 dc4 pm4 an4 cd4 ct4), sl4⟩) (c4 : PySem.W.codeIn K cd4 "is_symbol" = true) (k4 : PySem.W.keepIn K (.ref f4) = true)
    (a5 : PySem.W.nsIn K mainGlobals "is_rule" = some (some (.ref f5))) (l5 : K.lookup f5 = some ⟨oc5, od5, .func (PySem.W.fnOf "is_rule" "is_rule" (defArgs s_is_rule) (defBody s_is_rule) (defScope s_is_rule) .none kV5 dc5 pm5 an5 cd5 ct5), sl5⟩) (c5 : PySem.W.codeIn K cd5 "is_rule" = true) (k5 : PySem.W.keepIn K (.ref f5) = true)
    (a6 : PySem.W.nsIn K mainGlobals "is_rank" = some (some (.ref f6))) (l6 : K.lookup f6 = some ⟨oc6, od6, .func (PySem.W.fnOf "is_rank" "is_rank" (defArgs s_is_rank) (defBody s_is_rank) (defScope s_is_rank) .none kV6 dc6 pm6 an6 cd6 ct6), sl6⟩) (c6 : PySem.W.codeIn K cd6 "is_rank" = true) (k6 : PySem.W.keepIn K (.ref f6) = true)
    (a7 : PySem.W.nsIn K mainGlobals "need_rules" = some (some (.ref f7))) (l7 : K.lookup f7 = some ⟨oc7, od7, .func (PySem.W.fnOf "need_rules" "need_rules" (defArgs s_need_rules) (defBody s_need_rules) (defScope s_need_rules) .none kV7 dc7 pm7 an7 cd7 ct7), sl7⟩) (c7 : PySem.W.codeIn K cd7 "need_rules" = true) (k7 : PySem.W.keepIn K (.ref f7) = true)
    (a8 : PySem.W.nsIn K mainGlobals "need_ranks" = some (some (.ref f8))) (l8 : K.lookup f8 = some ⟨oc8, od8, .func (PySem.W.fnOf "need_ranks" "need_ranks" (defArgs s_need_ranks) (defBody s_need_ranks) (defScope s_need_ranks) .none kV8 dc8 pm8 an8 cd8 ct8), sl8⟩) (c8 : PySem.W.codeIn K cd8 "need_ranks" = true) (k8 : PySem.W.keepIn K (.ref f8) = true)
    (a9 : PySem.W.nsIn K mainGlobals "rank_in" = some (some (.ref f9))) (l9 : K.lookup f9 = some ⟨oc9, od9, .func (PySem.W.fnOf "rank_in" "rank_in" (defArgs s_rank_in) (defBody s_rank_in) (defScope s_rank_in) .none kV9 dc9 pm9 an9 cd9 ct9), sl9⟩) (c9 : PySem.W.codeIn K cd9 "rank_in" = true) (k9 : PySem.W.keepIn K (.ref f9) = true)
    (a10 : PySem.W.nsIn K mainGlobals "body_in" = some (some (.ref f10))) (l10 : K.lookup f10 = some ⟨oc10, od10, .func (PySem.W.fnOf "body_in" "body_in" (defArgs s_body_in) (defBody s_body_in) (defScope s_body_in) .none kV10 dc10 pm10 an10 cd10 ct10), sl10⟩) (c10 : PySem.W.codeIn K cd10 "body_in" = true) (k10 : PySem.W.keepIn K (.ref f10) = true)
    (a11 : PySem.W.nsIn K mainGlobals "parted_words" = some (some (.ref f11))) (l11 : K.lookup f11 = some ⟨oc11, od11, .func (PySem.W.fnOf "parted_words" "parted_words" (defArgs s_parted_words) (defBody s_parted_words) (defScope s_parted_words) .none kV11 dc11 pm11 an11 cd11 ct11), sl11⟩) (c11 : PySem.W.codeIn K cd11 "parted_words" = true) (k11 : PySem.W.keepIn K (.ref f11) = true)
    (a12 : PySem.W.nsIn K mainGlobals "rules_in" = some (some (.ref f12))) (l12 : K.lookup f12 = some ⟨oc12, od12, .func (PySem.W.fnOf "rules_in" "rules_in" (defArgs s_rules_in) (defBody s_rules_in) (defScope s_rules_in) .none kV12 dc12 pm12 an12 cd12 ct12), sl12⟩) (c12 : PySem.W.codeIn K cd12 "rules_in" = true) (k12 : PySem.W.keepIn K (.ref f12) = true)
    (a13 : PySem.W.nsIn K mainGlobals "read_grammar" = some (some (.ref f13))) (l13 : K.lookup f13 = some ⟨oc13, od13, .func (PySem.W.fnOf "read_grammar" "read_grammar" (defArgs s_read_grammar) (defBody s_read_grammar) (defScope s_read_grammar) .none kV13 dc13 pm13 an13 cd13 ct13), sl13⟩) (c13 : PySem.W.codeIn K cd13 "read_grammar" = true) (k13 : PySem.W.keepIn K (.ref f13) = true)
    (a14 : PySem.W.nsIn K mainGlobals "body_text" = some (some (.ref f14))) (l14 : K.lookup f14 = some ⟨oc14, od14, .func (PySem.W.fnOf "body_text" "body_text" (defArgs s_body_text) (defBody s_body_text) (defScope s_body_text) .none kV14 dc14 pm14 an14 cd14 ct14), sl14⟩) (c14 : PySem.W.codeIn K cd14 "body_text" = true) (k14 : PySem.W.keepIn K (.ref f14) = true)
    (a15 : PySem.W.nsIn K mainGlobals "show_grammar" = some (some (.ref f15))) (l15 : K.lookup f15 = some ⟨oc15, od15, .func (PySem.W.fnOf "show_grammar" "show_grammar" (defArgs s_show_grammar) (defBody s_show_grammar) (defScope s_show_grammar) .none kV15 dc15 pm15 an15 cd15 ct15), sl15⟩) (c15 : PySem.W.codeIn K cd15 "show_grammar" = true) (k15 : PySem.W.keepIn K (.ref f15) = true)
    (a16 : PySem.W.nsIn K mainGlobals "_law_cell" = some (some (.ref f16))) (l16 : K.lookup f16 = some ⟨oc16, od16, .func (PySem.W.fnOf "_law_cell" "_law_cell" (defArgs s__law_cell) (defBody s__law_cell) (defScope s__law_cell) .none kV16 dc16 pm16 an16 cd16 ct16), sl16⟩) (c16 : PySem.W.codeIn K cd16 "_law_cell" = true) (k16 : PySem.W.keepIn K (.ref f16) = true)
    (a17 : PySem.W.nsIn K mainGlobals "_law_stir" = some (some (.ref f17))) (l17 : K.lookup f17 = some ⟨oc17, od17, .func (PySem.W.fnOf "_law_stir" "_law_stir" (defArgs s__law_stir) (defBody s__law_stir) (defScope s__law_stir) .none kV17 dc17 pm17 an17 cd17 ct17), sl17⟩) (c17 : PySem.W.codeIn K cd17 "_law_stir" = true) (k17 : PySem.W.keepIn K (.ref f17) = true)
    (a18 : PySem.W.nsIn K mainGlobals "_law_row" = some (some (.ref f18))) (l18 : K.lookup f18 = some ⟨oc18, od18, .func (PySem.W.fnOf "_law_row" "_law_row" (defArgs s__law_row) (defBody s__law_row) (defScope s__law_row) .none kV18 dc18 pm18 an18 cd18 ct18), sl18⟩) (c18 : PySem.W.codeIn K cd18 "_law_row" = true) (k18 : PySem.W.keepIn K (.ref f18) = true)
    (a19 : PySem.W.nsIn K mainGlobals "_law_heads" = some (some (.ref f19))) (l19 : K.lookup f19 = some ⟨oc19, od19, .func (PySem.W.fnOf "_law_heads" "_law_heads" (defArgs s__law_heads) (defBody s__law_heads) (defScope s__law_heads) .none kV19 dc19 pm19 an19 cd19 ct19), sl19⟩) (c19 : PySem.W.codeIn K cd19 "_law_heads" = true) (k19 : PySem.W.keepIn K (.ref f19) = true)
    (a20 : PySem.W.nsIn K mainGlobals "_law_signs" = some (some (.ref f20))) (l20 : K.lookup f20 = some ⟨oc20, od20, .func (PySem.W.fnOf "_law_signs" "_law_signs" (defArgs s__law_signs) (defBody s__law_signs) (defScope s__law_signs) .none kV20 dc20 pm20 an20 cd20 ct20), sl20⟩) (c20 : PySem.W.codeIn K cd20 "_law_signs" = true) (k20 : PySem.W.keepIn K (.ref f20) = true)
    (a21 : PySem.W.nsIn K mainGlobals "_law_shape" = some (some (.ref f21))) (l21 : K.lookup f21 = some ⟨oc21, od21, .func (PySem.W.fnOf "_law_shape" "_law_shape" (defArgs s__law_shape) (defBody s__law_shape) (defScope s__law_shape) .none kV21 dc21 pm21 an21 cd21 ct21), sl21⟩) (c21 : PySem.W.codeIn K cd21 "_law_shape" = true) (k21 : PySem.W.keepIn K (.ref f21) = true)
    (a22 : PySem.W.nsIn K mainGlobals "_law_symbol" = some (some (.ref f22))) (l22 : K.lookup f22 = some ⟨oc22, od22, .func (PySem.W.fnOf "_law_symbol" "_law_symbol" (defArgs s__law_symbol) (defBody s__law_symbol) (defScope s__law_symbol) .none kV22 dc22 pm22 an22 cd22 ct22), sl22⟩) (c22 : PySem.W.codeIn K cd22 "_law_symbol" = true) (k22 : PySem.W.keepIn K (.ref f22) = true)
    (a23 : PySem.W.nsIn K mainGlobals "_law_drawn_rules" = some (some (.ref f23))) (l23 : K.lookup f23 = some ⟨oc23, od23, .func (PySem.W.fnOf "_law_drawn_rules" "_law_drawn_rules" (defArgs s__law_drawn_rules) (defBody s__law_drawn_rules) (defScope s__law_drawn_rules) .none kV23 dc23 pm23 an23 cd23 ct23), sl23⟩) (c23 : PySem.W.codeIn K cd23 "_law_drawn_rules" = true) (k23 : PySem.W.keepIn K (.ref f23) = true)
    (a24 : PySem.W.nsIn K mainGlobals "_law_rules" = some (some (.ref f24))) (l24 : K.lookup f24 = some ⟨oc24, od24, .func (PySem.W.fnOf "_law_rules" "_law_rules" (defArgs s__law_rules) (defBody s__law_rules) (defScope s__law_rules) .none kV24 dc24 pm24 an24 cd24 ct24), sl24⟩) (c24 : PySem.W.codeIn K cd24 "_law_rules" = true) (k24 : PySem.W.keepIn K (.ref f24) = true)
    (a25 : PySem.W.nsIn K mainGlobals "_law_ranks" = some (some (.ref f25))) (l25 : K.lookup f25 = some ⟨oc25, od25, .func (PySem.W.fnOf "_law_ranks" "_law_ranks" (defArgs s__law_ranks) (defBody s__law_ranks) (defScope s__law_ranks) .none kV25 dc25 pm25 an25 cd25 ct25), sl25⟩) (c25 : PySem.W.codeIn K cd25 "_law_ranks" = true) (k25 : PySem.W.keepIn K (.ref f25) = true)
    (a26 : PySem.W.nsIn K mainGlobals "_law_many" = some (some (.ref f26))) (l26 : K.lookup f26 = some ⟨oc26, od26, .func (PySem.W.fnOf "_law_many" "_law_many" (defArgs s__law_many) (defBody s__law_many) (defScope s__law_many) .none kV26 dc26 pm26 an26 cd26 ct26), sl26⟩) (c26 : PySem.W.codeIn K cd26 "_law_many" = true) (k26 : PySem.W.keepIn K (.ref f26) = true)
    (a27 : PySem.W.nsIn K mainGlobals "_law_body" = some (some (.ref f27))) (l27 : K.lookup f27 = some ⟨oc27, od27, .func (PySem.W.fnOf "_law_body" "_law_body" (defArgs s__law_body) (defBody s__law_body) (defScope s__law_body) .none kV27 dc27 pm27 an27 cd27 ct27), sl27⟩) (c27 : PySem.W.codeIn K cd27 "_law_body" = true) (k27 : PySem.W.keepIn K (.ref f27) = true)
    (a28 : PySem.W.nsIn K mainGlobals "_law_text" = some (some (.ref f28))) (l28 : K.lookup f28 = some ⟨oc28, od28, .func (PySem.W.fnOf "_law_text" "_law_text" (defArgs s__law_text) (defBody s__law_text) (defScope s__law_text) .none kV28 dc28 pm28 an28 cd28 ct28), sl28⟩) (c28 : PySem.W.codeIn K cd28 "_law_text" = true) (k28 : PySem.W.keepIn K (.ref f28) = true)
    (a29 : PySem.W.nsIn K mainGlobals "_law_right" = some (some (.ref f29))) (l29 : K.lookup f29 = some ⟨oc29, od29, .func (PySem.W.fnOf "_law_right" "_law_right" (defArgs s__law_right) (defBody s__law_right) (defScope s__law_right) .none kV29 dc29 pm29 an29 cd29 ct29), sl29⟩) (c29 : PySem.W.codeIn K cd29 "_law_right" = true) (k29 : PySem.W.keepIn K (.ref f29) = true)
    (a30 : PySem.W.nsIn K mainGlobals "law" = some (some (.ref f30))) (l30 : K.lookup f30 = some ⟨oc30, od30, .func (PySem.W.fnOf "law" "law" (defArgs s_law) (defBody s_law) (defScope s_law) .none kV30 dc30 pm30 an30 cd30 ct30), sl30⟩) (c30 : PySem.W.codeIn K cd30 "law" = true) (k30 : PySem.W.keepIn K (.ref f30) = true)
    (xa0 : PySem.W.nsIn K mainGlobals "TableError" = some (some (.ref xC0)))
    (xa1 : PySem.W.nsIn K mainGlobals "NoRule" = some (some (.ref xC1)))
    (xi1 : PySem.W.findIn K (.ref xC1) "__init__" = some (some (.ref xf1))) (xl1 : K.lookup xf1 = some ⟨xoc1, xod1, .func (PySem.W.fnOf "__init__" "NoRule.__init__" (defArgs (clsM 3 0)) (defBody (clsM 3 0)) (defScope (clsM 3 0)) .none xkV1 xdc1 xpm1 xan1 xcd1 xct1), xsl1⟩) (xc1 : PySem.W.codeIn K xcd1 "NoRule.__init__" = true) (xk1 : PySem.W.keepIn K (.ref xf1) = true) (xt1 : PySem.W.typeIn K (.ref xf1) = some (.type "function"))
    (xh1 : K.lookup xC1 = some (excClassObj xnm1 xq1 xC1 xN1 xbs1 xbm1 true xsn1 xsub1 xab1 xcol1 xdd1 xk01 xk11 xk21 xk31 xk51 "ValueError.__new__"))
    (xsa1 : PySem.W.findIn K (.ref xC1) "__setattr__" = some (some (.builtin "object.__setattr__"))) (xex1 : PySem.W.subIn K (.ref xC1) (.type "BaseException") = some true) (xty1 : PySem.W.typeIn K (.ref xC1) = some (.type "type")) (xkC1 : PySem.W.keepIn K (.ref xC1) = true)
    (yb1 : PySem.HandSPX.refsVE xbm1 = true)
    (xa2 : PySem.W.nsIn K mainGlobals "NoRanks" = some (some (.ref xC2)))
    (xi2 : PySem.W.findIn K (.ref xC2) "__init__" = some (some (.ref xf2))) (xl2 : K.lookup xf2 = some ⟨xoc2, xod2, .func (PySem.W.fnOf "__init__" "NoRanks.__init__" (defArgs (clsM 4 0)) (defBody (clsM 4 0)) (defScope (clsM 4 0)) .none xkV2 xdc2 xpm2 xan2 xcd2 xct2), xsl2⟩) (xc2 : PySem.W.codeIn K xcd2 "NoRanks.__init__" = true) (xk2 : PySem.W.keepIn K (.ref xf2) = true) (xt2 : PySem.W.typeIn K (.ref xf2) = some (.type "function"))
    (xh2 : K.lookup xC2 = some (excClassObj xnm2 xq2 xC2 xN2 xbs2 xbm2 true xsn2 xsub2 xab2 xcol2 xdd2 xk02 xk12 xk22 xk32 xk52 "ValueError.__new__"))
    (xsa2 : PySem.W.findIn K (.ref xC2) "__setattr__" = some (some (.builtin "object.__setattr__"))) (xex2 : PySem.W.subIn K (.ref xC2) (.type "BaseException") = some true) (xty2 : PySem.W.typeIn K (.ref xC2) = some (.type "type")) (xkC2 : PySem.W.keepIn K (.ref xC2) = true)
    (yb2 : PySem.HandSPX.refsVE xbm2 = true)
    (xa3 : PySem.W.nsIn K mainGlobals "NoText" = some (some (.ref xC3)))
    (xi3 : PySem.W.findIn K (.ref xC3) "__init__" = some (some (.ref xf3))) (xl3 : K.lookup xf3 = some ⟨xoc3, xod3, .func (PySem.W.fnOf "__init__" "NoText.__init__" (defArgs (clsM 5 0)) (defBody (clsM 5 0)) (defScope (clsM 5 0)) .none xkV3 xdc3 xpm3 xan3 xcd3 xct3), xsl3⟩) (xc3 : PySem.W.codeIn K xcd3 "NoText.__init__" = true) (xk3 : PySem.W.keepIn K (.ref xf3) = true) (xt3 : PySem.W.typeIn K (.ref xf3) = some (.type "function"))
    (xh3 : K.lookup xC3 = some (excClassObj xnm3 xq3 xC3 xN3 xbs3 xbm3 true xsn3 xsub3 xab3 xcol3 xdd3 xk03 xk13 xk23 xk33 xk53 "ValueError.__new__"))
    (xsa3 : PySem.W.findIn K (.ref xC3) "__setattr__" = some (some (.builtin "object.__setattr__"))) (xex3 : PySem.W.subIn K (.ref xC3) (.type "BaseException") = some true) (xty3 : PySem.W.typeIn K (.ref xC3) = some (.type "type")) (xkC3 : PySem.W.keepIn K (.ref xC3) = true)
    (yb3 : PySem.HandSPX.refsVE xbm3 = true)
    (xa4 : PySem.W.nsIn K mainGlobals "NoHead" = some (some (.ref xC4)))
    (xi4 : PySem.W.findIn K (.ref xC4) "__init__" = some (some (.ref xf4))) (xl4 : K.lookup xf4 = some ⟨xoc4, xod4, .func (PySem.W.fnOf "__init__" "NoHead.__init__" (defArgs (clsM 6 0)) (defBody (clsM 6 0)) (defScope (clsM 6 0)) .none xkV4 xdc4 xpm4 xan4 xcd4 xct4), xsl4⟩) (xc4 : PySem.W.codeIn K xcd4 "NoHead.__init__" = true) (xk4 : PySem.W.keepIn K (.ref xf4) = true) (xt4 : PySem.W.typeIn K (.ref xf4) = some (.type "function"))
    (xh4 : K.lookup xC4 = some (excClassObj xnm4 xq4 xC4 xN4 xbs4 xbm4 true xsn4 xsub4 xab4 xcol4 xdd4 xk04 xk14 xk24 xk34 xk54 "ValueError.__new__"))
    (xsa4 : PySem.W.findIn K (.ref xC4) "__setattr__" = some (some (.builtin "object.__setattr__"))) (xex4 : PySem.W.subIn K (.ref xC4) (.type "BaseException") = some true) (xty4 : PySem.W.typeIn K (.ref xC4) = some (.type "type")) (xkC4 : PySem.W.keepIn K (.ref xC4) = true)
    (yb4 : PySem.HandSPX.refsVE xbm4 = true)
    (xa5 : PySem.W.nsIn K mainGlobals "Doubled" = some (some (.ref xC5)))
    (xi5 : PySem.W.findIn K (.ref xC5) "__init__" = some (some (.ref xf5))) (xl5 : K.lookup xf5 = some ⟨xoc5, xod5, .func (PySem.W.fnOf "__init__" "Doubled.__init__" (defArgs (clsM 7 0)) (defBody (clsM 7 0)) (defScope (clsM 7 0)) .none xkV5 xdc5 xpm5 xan5 xcd5 xct5), xsl5⟩) (xc5 : PySem.W.codeIn K xcd5 "Doubled.__init__" = true) (xk5 : PySem.W.keepIn K (.ref xf5) = true) (xt5 : PySem.W.typeIn K (.ref xf5) = some (.type "function"))
    (xh5 : K.lookup xC5 = some (excClassObj xnm5 xq5 xC5 xN5 xbs5 xbm5 true xsn5 xsub5 xab5 xcol5 xdd5 xk05 xk15 xk25 xk35 xk55 "ValueError.__new__"))
    (xsa5 : PySem.W.findIn K (.ref xC5) "__setattr__" = some (some (.builtin "object.__setattr__"))) (xex5 : PySem.W.subIn K (.ref xC5) (.type "BaseException") = some true) (xty5 : PySem.W.typeIn K (.ref xC5) = some (.type "type")) (xkC5 : PySem.W.keepIn K (.ref xC5) = true)
    (yb5 : PySem.HandSPX.refsVE xbm5 = true)
    (xa6 : PySem.W.nsIn K mainGlobals "TooMany" = some (some (.ref xC6)))
    (xi6 : PySem.W.findIn K (.ref xC6) "__init__" = some (some (.ref xf6))) (xl6 : K.lookup xf6 = some ⟨xoc6, xod6, .func (PySem.W.fnOf "__init__" "TooMany.__init__" (defArgs (clsM 8 0)) (defBody (clsM 8 0)) (defScope (clsM 8 0)) .none xkV6 xdc6 xpm6 xan6 xcd6 xct6), xsl6⟩) (xc6 : PySem.W.codeIn K xcd6 "TooMany.__init__" = true) (xk6 : PySem.W.keepIn K (.ref xf6) = true) (xt6 : PySem.W.typeIn K (.ref xf6) = some (.type "function"))
    (xh6 : K.lookup xC6 = some (excClassObj xnm6 xq6 xC6 xN6 xbs6 xbm6 true xsn6 xsub6 xab6 xcol6 xdd6 xk06 xk16 xk26 xk36 xk56 "ValueError.__new__"))
    (xsa6 : PySem.W.findIn K (.ref xC6) "__setattr__" = some (some (.builtin "object.__setattr__"))) (xex6 : PySem.W.subIn K (.ref xC6) (.type "BaseException") = some true) (xty6 : PySem.W.typeIn K (.ref xC6) = some (.type "type")) (xkC6 : PySem.W.keepIn K (.ref xC6) = true)
    (yb6 : PySem.HandSPX.refsVE xbm6 = true)
    (xa7 : PySem.W.nsIn K mainGlobals "Grammar" = some (some (.ref xC7)))
    (yob7 : clsOkB K xC7 = true) (xmk7 : PySem.W.makesIn K xC7 = true) (xkC7 : PySem.W.keepIn K (.ref xC7) = true)
    (xmi0_7 : PySem.W.findIn K (.ref xC7) "__init__" = some (some (.ref mf0)))
    (xml0 : K.lookup mf0 = some ⟨moc0, mod0, .func (PySem.W.fnOf "__init__" "Grammar.__init__" (defArgs (clsM 30 0)) (defBody (clsM 30 0)) (defScope (clsM 30 0)) (.ref mT0) mkV0 mdc0 mpm0 man0 mcd0 mct0), msl0⟩) (xmc0 : PySem.W.codeIn K mcd0 "Grammar.__init__" = true) (xmk_0 : PySem.W.keepIn K (.ref mf0) = true) (xmn0 : PySem.W.isFn K (.ref mf0) = true)
    (xmt0 : K.lookup mT0 = some ⟨mTc0, mTd0, .seq #[Value.none] mTn0, mTs0⟩)
    (xmi1_7 : PySem.W.findIn K (.ref xC7) "need_heads" = some (some (.ref mf1)))
    (xml1 : K.lookup mf1 = some ⟨moc1, mod1, .func (PySem.W.fnOf "need_heads" "Grammar.need_heads" (defArgs (clsM 30 1)) (defBody (clsM 30 1)) (defScope (clsM 30 1)) .none mkV1 mdc1 mpm1 man1 mcd1 mct1), msl1⟩) (xmc1 : PySem.W.codeIn K mcd1 "Grammar.need_heads" = true) (xmk_1 : PySem.W.keepIn K (.ref mf1) = true) (xmn1 : PySem.W.isFn K (.ref mf1) = true)
    (xmi2_7 : PySem.W.findIn K (.ref xC7) "heads" = some (some (.ref mf2)))
    (xml2 : K.lookup mf2 = some ⟨moc2, mod2, .func (PySem.W.fnOf "heads" "Grammar.heads" (defArgs (clsM 30 3)) (defBody (clsM 30 3)) (defScope (clsM 30 3)) .none mkV2 mdc2 mpm2 man2 mcd2 mct2), msl2⟩) (xmc2 : PySem.W.codeIn K mcd2 "Grammar.heads" = true) (xmk_2 : PySem.W.keepIn K (.ref mf2) = true) (xmn2 : PySem.W.isFn K (.ref mf2) = true)
    (xmi3_7 : PySem.W.findIn K (.ref xC7) "signs" = some (some (.ref mf3)))
    (xml3 : K.lookup mf3 = some ⟨moc3, mod3, .func (PySem.W.fnOf "signs" "Grammar.signs" (defArgs (clsM 30 4)) (defBody (clsM 30 4)) (defScope (clsM 30 4)) .none mkV3 mdc3 mpm3 man3 mcd3 mct3), msl3⟩) (xmc3 : PySem.W.codeIn K mcd3 "Grammar.signs" = true) (xmk_3 : PySem.W.keepIn K (.ref mf3) = true) (xmn3 : PySem.W.isFn K (.ref mf3) = true)
    (yfld : fldB K fldO fldX = true) (yexm : exmB K exmT = true) (yisa : isaB K isaT = true)
    (xrd : PySem.W.readsIn K xC0 (.type "type") = true) (xga : PySem.W.specialIn K (.ref xC0) "__getattribute__" = some (some (.builtin "type.__getattribute__"))) (xvT : PySem.W.findCls K (.ref xC0) (.type "type") "__init__" = some (.val (.builtin "ValueError.__init__")))
    (zb_all : PySem.W.nsIn K mainGlobals "all" = some none)
    (zb_enumerate : PySem.W.nsIn K mainGlobals "enumerate" = some none)
    (zb_isinstance : PySem.W.nsIn K mainGlobals "isinstance" = some none)
    (zb_len : PySem.W.nsIn K mainGlobals "len" = some none)
    (zb_list : PySem.W.nsIn K mainGlobals "list" = some none)
    (zb_max : PySem.W.nsIn K mainGlobals "max" = some none)
    (zb_min : PySem.W.nsIn K mainGlobals "min" = some none)
    (zb_range : PySem.W.nsIn K mainGlobals "range" = some none)
    (zb_set : PySem.W.nsIn K mainGlobals "set" = some none)
    (zb_sorted : PySem.W.nsIn K mainGlobals "sorted" = some none)
    (zb_str : PySem.W.nsIn K mainGlobals "str" = some none)
    (zb_tuple : PySem.W.nsIn K mainGlobals "tuple" = some none)
    (zc_FIGURES : PySem.W.nsIn K mainGlobals "FIGURES" = some (some (.str (Str.ofString "0123456789") t_FIGURES)))
    (zc_GREAT : PySem.W.nsIn K mainGlobals "GREAT" = some (some (.str (Str.ofString "ABCDEFGHIJKLMNOPQRSTUVWXYZ") t_GREAT)))
    (zc_LONGEST : PySem.W.nsIn K mainGlobals "LONGEST" = some (some (.int 6 t_LONGEST)))
    (zc_MOST_HEADS : PySem.W.nsIn K mainGlobals "MOST_HEADS" = some (some (.int 8 t_MOST_HEADS)))
    (zc_MOST_IN_BODY : PySem.W.nsIn K mainGlobals "MOST_IN_BODY" = some (some (.int 4 t_MOST_IN_BODY)))
    (zc_MOST_RANKS : PySem.W.nsIn K mainGlobals "MOST_RANKS" = some (some (.int 6 t_MOST_RANKS)))
    (zc_MOST_RULES : PySem.W.nsIn K mainGlobals "MOST_RULES" = some (some (.int 20 t_MOST_RULES)))
    (zc_MOST_SIGNS : PySem.W.nsIn K mainGlobals "MOST_SIGNS" = some (some (.int 10 t_MOST_SIGNS)))
    (zc_OTHERS : PySem.W.nsIn K mainGlobals "OTHERS" = some (some (.str (Str.ofString "+-*/()[]=<>,;.!?^&") t_OTHERS)))
    (zc_SIDES : PySem.W.nsIn K mainGlobals "SIDES" = some (some (.ref ka_SIDES))) (zk_SIDES : K.lookup ka_SIDES = some ⟨.type "tuple", kod_SIDES, .seq #[.str (Str.ofString "left") kt_SIDES0, .str (Str.ofString "right") kt_SIDES1, .str (Str.ofString "none") kt_SIDES2] kn_SIDES, ksl_SIDES⟩)
    (zc_SMALL : PySem.W.nsIn K mainGlobals "SMALL" = some (some (.str (Str.ofString "abcdefghijklmnopqrstuvwxyz") t_SMALL))) :
    ∃ fd : FuncData, (∀ (s : Shared) (v : Value), BindsTo s fd ⟨[v], []⟩ [("_law_script", v)]) ∧ ∀ base : Heap, K.In base → base.Ns mainGlobals mg → FnOk l.prog w K mg base (L2.CX l.prog w) 9 fa fd ["_law_script"] (G.spLaw K) := by
  have e := hfa.symm.trans (PySem.W.mg_of X GX a30)
  cases e
  have T : Txt K w [ka_SIDES] [xC0, xC1, xC2, xC3, xC4, xC5, xC6, xC7] mg := ⟨isa_of yisa, fld_of yfld, yexm, PySem.W.mg_of X GX xa0, cls_ns xa0, PySem.W.mg_of X GX xa1, cls_ns xa1, PySem.W.mg_of X GX xa2, cls_ns xa2, PySem.W.mg_of X GX xa3, cls_ns xa3, PySem.W.mg_of X GX xa4, cls_ns xa4, PySem.W.mg_of X GX xa5, cls_ns xa5, PySem.W.mg_of X GX xa6, cls_ns xa6, PySem.W.mg_of X GX xa7, cls_ns xa7, PySem.W.mg_none_of X GX zb_all, PySem.W.mg_none_of X GX zb_enumerate, PySem.W.mg_none_of X GX zb_isinstance, PySem.W.mg_none_of X GX zb_len, PySem.W.mg_none_of X GX zb_list, PySem.W.mg_none_of X GX zb_max, PySem.W.mg_none_of X GX zb_min, PySem.W.mg_none_of X GX zb_range, PySem.W.mg_none_of X GX zb_set, PySem.W.mg_none_of X GX zb_sorted, PySem.W.mg_none_of X GX zb_str, PySem.W.mg_none_of X GX zb_tuple, ⟨_, PySem.W.mg_of X GX zc_FIGURES, ⟨_, rfl⟩⟩, ⟨_, PySem.W.mg_of X GX zc_GREAT, ⟨_, rfl⟩⟩, ⟨_, PySem.W.mg_of X GX zc_LONGEST, ⟨_, rfl⟩⟩, ⟨_, PySem.W.mg_of X GX zc_MOST_HEADS, ⟨_, rfl⟩⟩, ⟨_, PySem.W.mg_of X GX zc_MOST_IN_BODY, ⟨_, rfl⟩⟩, ⟨_, PySem.W.mg_of X GX zc_MOST_RANKS, ⟨_, rfl⟩⟩, ⟨_, PySem.W.mg_of X GX zc_MOST_RULES, ⟨_, rfl⟩⟩, ⟨_, PySem.W.mg_of X GX zc_MOST_SIGNS, ⟨_, rfl⟩⟩, ⟨_, PySem.W.mg_of X GX zc_OTHERS, ⟨_, rfl⟩⟩, ⟨_, PySem.W.mg_of X GX zc_SIDES, rfl⟩, kt_strs zk_SIDES (Nat.le_of_ble_eq_true rfl) (.cons ⟨_, rfl⟩ (.cons ⟨_, rfl⟩ (.cons ⟨_, rfl⟩ (.nil)))), ⟨_, PySem.W.mg_of X GX zc_SMALL, ⟨_, rfl⟩⟩⟩
  have F0 := fun_mk (st := s__wall) l0 c0 k0
  have D0 : G.DefAt K mg "_wall" "_wall" s__wall ["k"] := ⟨_, _, F0, PySem.W.mg_of X GX a0, F0.binds (ps := ["k"]) fun _ _ _ _ _ _ us hl => match us, hl with | [_], _ => rfl⟩
  have F1 := fun_mk (st := s_is_made_of) l1 c1 k1
  have D1 : G.DefAt K mg "is_made_of" "is_made_of" s_is_made_of ["text", "some"] := ⟨_, _, F1, PySem.W.mg_of X GX a1, F1.binds (ps := ["text", "some"]) fun _ _ _ _ _ _ us hl => match us, hl with | [_, _], _ => rfl⟩
  have F2 := fun_mk (st := s_is_sign) l2 c2 k2
  have D2 : G.DefAt K mg "is_sign" "is_sign" s_is_sign ["thing"] := ⟨_, _, F2, PySem.W.mg_of X GX a2, F2.binds (ps := ["thing"]) fun _ _ _ _ _ _ us hl => match us, hl with | [_], _ => rfl⟩
  have F3 := fun_mk (st := s_is_head) l3 c3 k3
  have D3 : G.DefAt K mg "is_head" "is_head" s_is_head ["thing"] := ⟨_, _, F3, PySem.W.mg_of X GX a3, F3.binds (ps := ["thing"]) fun _ _ _ _ _ _ us hl => match us, hl with | [_], _ => rfl⟩
  have F4 := fun_mk (st := s_is_symbol) l4 c4 k4
  have D4 : G.DefAt K mg "is_symbol" "is_symbol" s_is_symbol ["thing"] := ⟨_, _, F4, PySem.W.mg_of X GX a4, F4.binds (ps := ["thing"]) fun _ _ _ _ _ _ us hl => match us, hl with | [_], _ => rfl⟩
  have F5 := fun_mk (st := s_is_rule) l5 c5 k5
  have D5 : G.DefAt K mg "is_rule" "is_rule" s_is_rule ["thing"] := ⟨_, _, F5, PySem.W.mg_of X GX a5, F5.binds (ps := ["thing"]) fun _ _ _ _ _ _ us hl => match us, hl with | [_], _ => rfl⟩
  have F6 := fun_mk (st := s_is_rank) l6 c6 k6
  have D6 : G.DefAt K mg "is_rank" "is_rank" s_is_rank ["thing"] := ⟨_, _, F6, PySem.W.mg_of X GX a6, F6.binds (ps := ["thing"]) fun _ _ _ _ _ _ us hl => match us, hl with | [_], _ => rfl⟩
  have F7 := fun_mk (st := s_need_rules) l7 c7 k7
  have D7 : G.DefAt K mg "need_rules" "need_rules" s_need_rules ["rules"] := ⟨_, _, F7, PySem.W.mg_of X GX a7, F7.binds (ps := ["rules"]) fun _ _ _ _ _ _ us hl => match us, hl with | [_], _ => rfl⟩
  have F8 := fun_mk (st := s_need_ranks) l8 c8 k8
  have D8 : G.DefAt K mg "need_ranks" "need_ranks" s_need_ranks ["ranks"] := ⟨_, _, F8, PySem.W.mg_of X GX a8, F8.binds (ps := ["ranks"]) fun _ _ _ _ _ _ us hl => match us, hl with | [_], _ => rfl⟩
  have F9 := fun_mk (st := s_rank_in) l9 c9 k9
  have D9 : G.DefAt K mg "rank_in" "rank_in" s_rank_in ["row"] := ⟨_, _, F9, PySem.W.mg_of X GX a9, F9.binds (ps := ["row"]) fun _ _ _ _ _ _ us hl => match us, hl with | [_], _ => rfl⟩
  have F10 := fun_mk (st := s_body_in) l10 c10 k10
  have D10 : G.DefAt K mg "body_in" "body_in" s_body_in ["words"] := ⟨_, _, F10, PySem.W.mg_of X GX a10, F10.binds (ps := ["words"]) fun _ _ _ _ _ _ us hl => match us, hl with | [_], _ => rfl⟩
  have F11 := fun_mk (st := s_parted_words) l11 c11 k11
  have D11 : G.DefAt K mg "parted_words" "parted_words" s_parted_words ["words"] := ⟨_, _, F11, PySem.W.mg_of X GX a11, F11.binds (ps := ["words"]) fun _ _ _ _ _ _ us hl => match us, hl with | [_], _ => rfl⟩
  have F12 := fun_mk (st := s_rules_in) l12 c12 k12
  have D12 : G.DefAt K mg "rules_in" "rules_in" s_rules_in ["row"] := ⟨_, _, F12, PySem.W.mg_of X GX a12, F12.binds (ps := ["row"]) fun _ _ _ _ _ _ us hl => match us, hl with | [_], _ => rfl⟩
  have F13 := fun_mk (st := s_read_grammar) l13 c13 k13
  have D13 : G.DefAt K mg "read_grammar" "read_grammar" s_read_grammar ["text"] := ⟨_, _, F13, PySem.W.mg_of X GX a13, F13.binds (ps := ["text"]) fun _ _ _ _ _ _ us hl => match us, hl with | [_], _ => rfl⟩
  have F14 := fun_mk (st := s_body_text) l14 c14 k14
  have D14 : G.DefAt K mg "body_text" "body_text" s_body_text ["body"] := ⟨_, _, F14, PySem.W.mg_of X GX a14, F14.binds (ps := ["body"]) fun _ _ _ _ _ _ us hl => match us, hl with | [_], _ => rfl⟩
  have F15 := fun_mk (st := s_show_grammar) l15 c15 k15
  have D15 : G.DefAt K mg "show_grammar" "show_grammar" s_show_grammar ["grammar"] := ⟨_, _, F15, PySem.W.mg_of X GX a15, F15.binds (ps := ["grammar"]) fun _ _ _ _ _ _ us hl => match us, hl with | [_], _ => rfl⟩
  have F16 := fun_mk (st := s__law_cell) l16 c16 k16
  have D16 : G.DefAt K mg "_law_cell" "_law_cell" s__law_cell ["_law_script", "_law_k"] := ⟨_, _, F16, PySem.W.mg_of X GX a16, F16.binds (ps := ["_law_script", "_law_k"]) fun _ _ _ _ _ _ us hl => match us, hl with | [_, _], _ => rfl⟩
  have F17 := fun_mk (st := s__law_stir) l17 c17 k17
  have D17 : G.DefAt K mg "_law_stir" "_law_stir" s__law_stir ["_law_cell_here", "_law_k"] := ⟨_, _, F17, PySem.W.mg_of X GX a17, F17.binds (ps := ["_law_cell_here", "_law_k"]) fun _ _ _ _ _ _ us hl => match us, hl with | [_, _], _ => rfl⟩
  have F18 := fun_mk (st := s__law_row) l18 c18 k18
  have D18 : G.DefAt K mg "_law_row" "_law_row" s__law_row ["_law_script", "_law_at", "_law_base", "_law_count"] := ⟨_, _, F18, PySem.W.mg_of X GX a18, F18.binds (ps := ["_law_script", "_law_at", "_law_base", "_law_count"]) fun _ _ _ _ _ _ us hl => match us, hl with | [_, _, _, _], _ => rfl⟩
  have F19 := fun_mk (st := s__law_heads) l19 c19 k19
  have D19 : G.DefAt K mg "_law_heads" "_law_heads" s__law_heads ["_law_cell_here", "_law_many_here"] := ⟨_, _, F19, PySem.W.mg_of X GX a19, F19.binds (ps := ["_law_cell_here", "_law_many_here"]) fun _ _ _ _ _ _ us hl => match us, hl with | [_, _], _ => rfl⟩
  have F20 := fun_mk (st := s__law_signs) l20 c20 k20
  have D20 : G.DefAt K mg "_law_signs" "_law_signs" s__law_signs ["_law_cell_here", "_law_many_here"] := ⟨_, _, F20, PySem.W.mg_of X GX a20, F20.binds (ps := ["_law_cell_here", "_law_many_here"]) fun _ _ _ _ _ _ us hl => match us, hl with | [_, _], _ => rfl⟩
  have F21 := fun_mk (st := s__law_shape) l21 c21 k21
  have D21 : G.DefAt K mg "_law_shape" "_law_shape" s__law_shape ["_law_number"] := ⟨_, _, F21, PySem.W.mg_of X GX a21, F21.binds (ps := ["_law_number"]) fun _ _ _ _ _ _ us hl => match us, hl with | [_], _ => rfl⟩
  have F22 := fun_mk (st := s__law_symbol) l22 c22 k22
  have D22 : G.DefAt K mg "_law_symbol" "_law_symbol" s__law_symbol ["_law_number", "_law_heads_here", "_law_signs_here"] := ⟨_, _, F22, PySem.W.mg_of X GX a22, F22.binds (ps := ["_law_number", "_law_heads_here", "_law_signs_here"]) fun _ _ _ _ _ _ us hl => match us, hl with | [_, _, _], _ => rfl⟩
  have F23 := fun_mk (st := s__law_drawn_rules) l23 c23 k23
  have D23 : G.DefAt K mg "_law_drawn_rules" "_law_drawn_rules" s__law_drawn_rules ["_law_script", "_law_at", "_law_heads_here", "_law_signs_here", "_law_more"] := ⟨_, _, F23, PySem.W.mg_of X GX a23, F23.binds (ps := ["_law_script", "_law_at", "_law_heads_here", "_law_signs_here", "_law_more"]) fun _ _ _ _ _ _ us hl => match us, hl with | [_, _, _, _, _], _ => rfl⟩
  have F24 := fun_mk (st := s__law_rules) l24 c24 k24
  have D24 : G.DefAt K mg "_law_rules" "_law_rules" s__law_rules ["_law_script", "_law_at"] := ⟨_, _, F24, PySem.W.mg_of X GX a24, F24.binds (ps := ["_law_script", "_law_at"]) fun _ _ _ _ _ _ us hl => match us, hl with | [_, _], _ => rfl⟩
  have F25 := fun_mk (st := s__law_ranks) l25 c25 k25
  have D25 : G.DefAt K mg "_law_ranks" "_law_ranks" s__law_ranks ["_law_script", "_law_at"] := ⟨_, _, F25, PySem.W.mg_of X GX a25, F25.binds (ps := ["_law_script", "_law_at"]) fun _ _ _ _ _ _ us hl => match us, hl with | [_, _], _ => rfl⟩
  have F26 := fun_mk (st := s__law_many) l26 c26 k26
  have D26 : G.DefAt K mg "_law_many" "_law_many" s__law_many ["_law_rules_here", "_law_many_here"] := ⟨_, _, F26, PySem.W.mg_of X GX a26, F26.binds (ps := ["_law_rules_here", "_law_many_here"]) fun _ _ _ _ _ _ us hl => match us, hl with | [_, _], _ => rfl⟩
  have F27 := fun_mk (st := s__law_body) l27 c27 k27
  have D27 : G.DefAt K mg "_law_body" "_law_body" s__law_body ["_law_body_here"] := ⟨_, _, F27, PySem.W.mg_of X GX a27, F27.binds (ps := ["_law_body_here"]) fun _ _ _ _ _ _ us hl => match us, hl with | [_], _ => rfl⟩
  have F28 := fun_mk (st := s__law_text) l28 c28 k28
  have D28 : G.DefAt K mg "_law_text" "_law_text" s__law_text ["_law_rules_here", "_law_ranks_here", "_law_parts"] := ⟨_, _, F28, PySem.W.mg_of X GX a28, F28.binds (ps := ["_law_rules_here", "_law_ranks_here", "_law_parts"]) fun _ _ _ _ _ _ us hl => match us, hl with | [_, _, _], _ => rfl⟩
  have F29 := fun_mk (st := s__law_right) l29 c29 k29
  have D29 : G.DefAt K mg "_law_right" "_law_right" s__law_right ["_law_grammar", "_law_rules_here", "_law_ranks_here", "_law_shown"] := ⟨_, _, F29, PySem.W.mg_of X GX a29, F29.binds (ps := ["_law_grammar", "_law_rules_here", "_law_ranks_here", "_law_shown"]) fun _ _ _ _ _ _ us hl => match us, hl with | [_, _, _, _], _ => rfl⟩
  have F30 := fun_mk (st := s_law) l30 c30 k30
  have D30 : G.DefAt K mg "law" "law" s_law ["_law_script"] := ⟨_, _, F30, PySem.W.mg_of X GX a30, F30.binds (ps := ["_law_script"]) fun _ _ _ _ _ _ us hl => match us, hl with | [_], _ => rfl⟩
  refine ⟨PySem.W.fnOf "law" "law" (defArgs s_law) (defBody s_law) (defScope s_law) .none kV30 dc30 pm30 an30 cd30 ct30, fun s v => .of_eq rfl, fun base _ _ => ?_⟩
  have O1 : OexC K xC1 := ⟨⟨_, _, _, _, _, _, _, _, _, _, _, _, _, _, _, xh1, yb1⟩, xsa1, xex1, xty1, xkC1⟩
  have XF1 := fun_mk (st := (clsM 3 0)) xl1 xc1 xk1
  have X_NoRule : XcC l.prog w K mg base "NoRule" ["self", "found"] (fun C => G.spI C (Str.ofString "found")) := ⟨xC1, _, _, cls_ns xa1, PySem.W.mg_of X GX xa1, O1, xi1, xt1, oki_NoRule T (cls_ns xa1) ⟨xrd, xga⟩ xvT XF1 O1, XF1.binds (ps := ["self", "found"]) fun _ _ _ _ _ _ us hl => match us, hl with | [_, _], _ => rfl⟩
  have O2 : OexC K xC2 := ⟨⟨_, _, _, _, _, _, _, _, _, _, _, _, _, _, _, xh2, yb2⟩, xsa2, xex2, xty2, xkC2⟩
  have XF2 := fun_mk (st := (clsM 4 0)) xl2 xc2 xk2
  have X_NoRanks : XcC l.prog w K mg base "NoRanks" ["self", "found"] (fun C => G.spI C (Str.ofString "found")) := ⟨xC2, _, _, cls_ns xa2, PySem.W.mg_of X GX xa2, O2, xi2, xt2, oki_NoRanks T (cls_ns xa2) ⟨xrd, xga⟩ xvT XF2 O2, XF2.binds (ps := ["self", "found"]) fun _ _ _ _ _ _ us hl => match us, hl with | [_, _], _ => rfl⟩
  have O3 : OexC K xC3 := ⟨⟨_, _, _, _, _, _, _, _, _, _, _, _, _, _, _, xh3, yb3⟩, xsa3, xex3, xty3, xkC3⟩
  have XF3 := fun_mk (st := (clsM 5 0)) xl3 xc3 xk3
  have X_NoText : XcC l.prog w K mg base "NoText" ["self", "line"] (fun C => G.spI C (Str.ofString "line")) := ⟨xC3, _, _, cls_ns xa3, PySem.W.mg_of X GX xa3, O3, xi3, xt3, oki_NoText T (cls_ns xa3) ⟨xrd, xga⟩ xvT XF3 O3, XF3.binds (ps := ["self", "line"]) fun _ _ _ _ _ _ us hl => match us, hl with | [_, _], _ => rfl⟩
  have O4 : OexC K xC4 := ⟨⟨_, _, _, _, _, _, _, _, _, _, _, _, _, _, _, xh4, yb4⟩, xsa4, xex4, xty4, xkC4⟩
  have XF4 := fun_mk (st := (clsM 6 0)) xl4 xc4 xk4
  have X_NoHead : XcC l.prog w K mg base "NoHead" ["self", "head"] (fun C => G.spI C (Str.ofString "head")) := ⟨xC4, _, _, cls_ns xa4, PySem.W.mg_of X GX xa4, O4, xi4, xt4, oki_NoHead T (cls_ns xa4) ⟨xrd, xga⟩ xvT XF4 O4, XF4.binds (ps := ["self", "head"]) fun _ _ _ _ _ _ us hl => match us, hl with | [_, _], _ => rfl⟩
  have O5 : OexC K xC5 := ⟨⟨_, _, _, _, _, _, _, _, _, _, _, _, _, _, _, xh5, yb5⟩, xsa5, xex5, xty5, xkC5⟩
  have XF5 := fun_mk (st := (clsM 7 0)) xl5 xc5 xk5
  have X_Doubled : XcC l.prog w K mg base "Doubled" ["self", "number"] (fun C => G.spI C (Str.ofString "number")) := ⟨xC5, _, _, cls_ns xa5, PySem.W.mg_of X GX xa5, O5, xi5, xt5, oki_Doubled T (cls_ns xa5) ⟨xrd, xga⟩ xvT XF5 O5, XF5.binds (ps := ["self", "number"]) fun _ _ _ _ _ _ us hl => match us, hl with | [_, _], _ => rfl⟩
  have O6 : OexC K xC6 := ⟨⟨_, _, _, _, _, _, _, _, _, _, _, _, _, _, _, xh6, yb6⟩, xsa6, xex6, xty6, xkC6⟩
  have XF6 := fun_mk (st := (clsM 8 0)) xl6 xc6 xk6
  have X_TooMany : XcC l.prog w K mg base "TooMany" ["self", "found"] (fun C => G.spI C (Str.ofString "found")) := ⟨xC6, _, _, cls_ns xa6, PySem.W.mg_of X GX xa6, O6, xi6, xt6, oki_TooMany T (cls_ns xa6) ⟨xrd, xga⟩ xvT XF6 O6, XF6.binds (ps := ["self", "found"]) fun _ _ _ _ _ _ us hl => match us, hl with | [_, _], _ => rfl⟩
  have C__wall := ok__wall (P := l.prog) (w := w) (base := base) T D0
  have C_is_made_of := ok_is_made_of (P := l.prog) (w := w) (base := base) T D1
  have MF2 := G.Fun.toD (fun_mk (st := (clsM 30 3)) xml2 xmc2 xmk_2)
  have O_Grammar_heads_b := ok_Grammar_heads_b (P := l.prog) (w := w) (base := base) T MF2
  have C_parted_words := ok_parted_words (P := l.prog) (w := w) (base := base) T D11
  have C_body_text := ok_body_text (P := l.prog) (w := w) (base := base) T D14
  have C__law_cell := ok__law_cell (P := l.prog) (w := w) (base := base) T D16
  have C__law_stir := ok__law_stir (P := l.prog) (w := w) (base := base) T D17
  have C__law_heads := ok__law_heads (P := l.prog) (w := w) (base := base) T D19
  have C__law_signs := ok__law_signs (P := l.prog) (w := w) (base := base) T D20
  have C__law_shape := ok__law_shape (P := l.prog) (w := w) (base := base) T D21
  have C__law_symbol := ok__law_symbol (P := l.prog) (w := w) (base := base) T D22
  have C__law_many := ok__law_many (P := l.prog) (w := w) (base := base) T D26
  have C__law_body := ok__law_body (P := l.prog) (w := w) (base := base) T D27
  have C_is_sign := ok_is_sign (P := l.prog) (w := w) (base := base) T D2 C_is_made_of
  have C_is_head := ok_is_head (P := l.prog) (w := w) (base := base) T D3 C_is_made_of
  have C_show_grammar := ok_show_grammar (P := l.prog) (w := w) (base := base) T D15 C_body_text
  have C__law_row := ok__law_row (P := l.prog) (w := w) (base := base) T D18 C__law_cell C__law_stir
  have C__law_text := ok__law_text (P := l.prog) (w := w) (base := base) T D28 C__law_body
  have C_is_symbol := ok_is_symbol (P := l.prog) (w := w) (base := base) T D4 C_is_sign C_is_head
  have C_is_rank := ok_is_rank (P := l.prog) (w := w) (base := base) T D6 C_is_sign
  have MF3 := G.Fun.toD (fun_mk (st := (clsM 30 4)) xml3 xmc3 xmk_3)
  have O_Grammar_signs_b := ok_Grammar_signs_b (P := l.prog) (w := w) (base := base) T MF3 C_is_sign
  have C_rank_in := ok_rank_in (P := l.prog) (w := w) (base := base) T D9 C_is_sign
  have C__law_drawn_rules := ok__law_drawn_rules (P := l.prog) (w := w) (base := base) T D23 C__law_row
  have C__law_ranks := ok__law_ranks (P := l.prog) (w := w) (base := base) T D25 C__law_row C__law_signs
  have C__law_right := ok__law_right (P := l.prog) (w := w) (base := base) T D29 C_show_grammar
  have C_is_rule := ok_is_rule (P := l.prog) (w := w) (base := base) T D5 C_is_head C_is_symbol
  have C_need_ranks := ok_need_ranks (P := l.prog) (w := w) (base := base) T D8 C_is_rank X_NoRanks X_TooMany
  have H_mb_heads : MtT l.prog w K mg base "heads" (spB K) tb_heads 1 := (MtT.cons (k := 1) (by decide) ⟨xC7, mf2, _, cls_ns xa7, clsOk_of yob7, ⟨xmi2_7, xmn2, xmk_2⟩, O_Grammar_heads_b, (fun_mk (st := (clsM 30 3)) xml2 xmc2 xmk_2).binds (ps := ["self"]) fun _ _ _ _ _ _ us hl => match us, hl with | [_], _ => rfl⟩ .nil)
  have H_mb_signs : MtT l.prog w K mg base "signs" (spB K) tb_signs 3 := (MtT.cons (k := 3) (by decide) ⟨xC7, mf3, _, cls_ns xa7, clsOk_of yob7, ⟨xmi3_7, xmn3, xmk_3⟩, O_Grammar_signs_b, (fun_mk (st := (clsM 30 4)) xml3 xmc3 xmk_3).binds (ps := ["self"]) fun _ _ _ _ _ _ us hl => match us, hl with | [_], _ => rfl⟩ .nil)
  have MF1 := G.Fun.toD (fun_mk (st := (clsM 30 1)) xml1 xmc1 xmk_1)
  have O_Grammar_need_heads_b := ok_Grammar_need_heads_b (P := l.prog) (w := w) (base := base) T MF1 C_is_head H_mb_heads X_NoHead X_TooMany H_mb_signs
  have C_body_in := ok_body_in (P := l.prog) (w := w) (base := base) T D10 C_is_symbol
  have C__law_rules := ok__law_rules (P := l.prog) (w := w) (base := base) T D24 C__law_row C__law_heads C__law_signs C__law_drawn_rules C__law_shape C__law_symbol
  have C_need_rules := ok_need_rules (P := l.prog) (w := w) (base := base) T D7 C_is_rule X_NoRule X_TooMany X_Doubled
  have C_rules_in := ok_rules_in (P := l.prog) (w := w) (base := base) T D12 C_body_in C_is_head C_parted_words
  have H_mb_need_heads : MtT l.prog w K mg base "need_heads" (spB K) tb_need_heads 4 := (MtT.cons (k := 4) (by decide) ⟨xC7, mf1, _, cls_ns xa7, clsOk_of yob7, ⟨xmi1_7, xmn1, xmk_1⟩, O_Grammar_need_heads_b, (fun_mk (st := (clsM 30 1)) xml1 xmc1 xmk_1).binds (ps := ["self"]) fun _ _ _ _ _ _ us hl => match us, hl with | [_], _ => rfl⟩ .nil)
  have MF0 : FunD K "__init__" "Grammar.__init__" (defArgs (clsM 30 0)) (defBody (clsM 30 0)) (defScope (clsM 30 0)) [.non] [] mf0 _ := ⟨⟨_, _, _, _, _, _, _, _, _, _, rfl, xml0, xmc0, .inr ⟨by simp, _, _, [Value.none], _, rfl, xmt0, rfl, .cons rfl (.nil)⟩, .inl rfl⟩, xmk_0⟩
  have O_Grammar_init := ok_Grammar_init (P := l.prog) (w := w) (base := base) T MF0 C_need_rules C_need_ranks H_mb_need_heads
  obtain ⟨dv0_2, hv0_2, hb0_2⟩ := MF0.binds1 (ps := ["self", "rules", "ranks"]) 3 1 (by simp) rfl (fun T kV doc pm an cdv ct us its hu hi => match us, its, hu, hi with | [_, _, _], [_], _, _ => ⟨_, rfl, rfl⟩)
  have H_i_Grammar_2 : MkC l.prog w K mg base "Grammar" 6 ["self", "rules", "ranks"] [] (spB K F_Grammar_init) := ⟨xC7, mf0, _, dv0_2, cls_ns xa7, PySem.W.mg_of X GX xa7, ⟨xmk7, xmi0_7, xmn0, xkC7⟩, O_Grammar_init, hb0_2, hv0_2⟩
  have C_read_grammar := ok_read_grammar (P := l.prog) (w := w) (base := base) T D13 C_rank_in C_rules_in X_NoText H_i_Grammar_2
  have C_law := ok_law (P := l.prog) (w := w) (base := base) T D30 C__law_rules C__law_ranks C__law_text C__law_right C__law_row C_read_grammar C__law_many H_i_Grammar_2
  exact law_fn C_law F30 hfa law_true
end S
open PySem PySem.W PyProof.Rows
set_option maxRecDepth 100000 in
set_option maxHeartbeats 0 in
theorem PySem.Challenge.cw_rulestable_k07_texts_there_and_back_holds : PySem.Challenge.rw_rulestable_k07_texts_there_and_back.Holds := by
  w_on; o_law; k_head; (case hw => w_witness2)
  k_fill
  refine L2.walk_of (l := PySem.Challenge.rw_rulestable_k07_texts_there_and_back) (n := 63) (k := 9) (x := "_law_script") (CX := fun w => L2.CX PySem.Challenge.rw_rulestable_k07_texts_there_and_back.prog w) (sp := fun w => G.spLaw _) rfl (by decide) rfl ⟨rfl, by decide, by decide⟩ (fun w h Y => PySem.W.kIn_of Y) ?F (fun _ _ a ns hl _ hS => ⟨a, ns, rfl, hS, hl, fun _ => rfl⟩) (fun _ _ _ _ _ h => S.cx_no h)
  case F =>
    intro w mg fa h KX GG hmg
    refine' S.all_mk KX GG hmg ?a0 ?l0 ?c0 ?k0 ?a1 ?l1 ?c1 ?k1 ?a2 ?l2 ?c2 ?k2 ?a3 ?l3 ?c3 ?k3 ?a4 ?l4 ?c4 ?k4 ?a5 ?l5 ?c5 ?k5 ?a6 ?l6 ?c6 ?k6 ?a7 ?l7 ?c7 ?k7 ?a8 ?l8 ?c8 ?k8 ?a9 ?l9 ?c9 ?k9 ?a10 ?l10 ?c10 ?k10 ?a11 ?l11 ?c11 ?k11 ?a12 ?l12 ?c12 ?k12 ?a13 ?l13 ?c13 ?k13 ?a14 ?l14 ?c14 ?k14 ?a15 ?l15 ?c15 ?k15 ?a16 ?l16 ?c16 ?k16 ?a17 ?l17 ?c17 ?k17 ?a18 ?l18 ?c18 ?k18 ?a19 ?l19 ?c19 ?k19 ?a20 ?l20 ?c20 ?k20 ?a21 ?l21 ?c21 ?k21 ?a22 ?l22 ?c22 ?k22 ?a23 ?l23 ?c23 ?k23 ?a24 ?l24 ?c24 ?k24 ?a25 ?l25 ?c25 ?k25 ?a26 ?l26 ?c26 ?k26 ?a27 ?l27 ?c27 ?k27 ?a28 ?l28 ?c28 ?k28 ?a29 ?l29 ?c29 ?k29 ?a30 ?l30 ?c30 ?k30 ?xa0 ?xa1 ?xi1 ?xl1 ?xc1 ?xk1 ?xt1 ?xh1 ?xsa1 ?xex1 ?xty1 ?xkC1 ?yb1 ?xa2 ?xi2 ?xl2 ?xc2 ?xk2 ?xt2 ?xh2 ?xsa2 ?xex2 ?xty2 ?xkC2 ?yb2 ?xa3 ?xi3 ?xl3 ?xc3 ?xk3 ?xt3 ?xh3 ?xsa3 ?xex3 ?xty3 ?xkC3 ?yb3 ?xa4 ?xi4 ?xl4 ?xc4 ?xk4 ?xt4 ?xh4 ?xsa4 ?xex4 ?xty4 ?xkC4 ?yb4 ?xa5 ?xi5 ?xl5 ?xc5 ?xk5 ?xt5 ?xh5 ?xsa5 ?xex5 ?xty5 ?xkC5 ?yb5 ?xa6 ?xi6 ?xl6 ?xc6 ?xk6 ?xt6 ?xh6 ?xsa6 ?xex6 ?xty6 ?xkC6 ?yb6 ?xa7 ?yob7 ?xmk7 ?xkC7 ?xmi0_7 ?xml0 ?xmc0 ?xmk_0 ?xmn0 ?xmt0 ?xmi1_7 ?xml1 ?xmc1 ?xmk_1 ?xmn1 ?xmi2_7 ?xml2 ?xmc2 ?xmk_2 ?xmn2 ?xmi3_7 ?xml3 ?xmc3 ?xmk_3 ?xmn3 ?yfld ?yexm ?yisa ?xrd ?xga ?xvT ?zb_all ?zb_enumerate ?zb_isinstance ?zb_len ?zb_list ?zb_max ?zb_min ?zb_range ?zb_set ?zb_sorted ?zb_str ?zb_tuple ?zc_FIGURES ?zc_GREAT ?zc_LONGEST ?zc_MOST_HEADS ?zc_MOST_IN_BODY ?zc_MOST_RANKS ?zc_MOST_RULES ?zc_MOST_SIGNS ?zc_OTHERS ?zc_SIDES ?zk_SIDES ?zc_SMALL
    (case a0 => k_is); (case l0 => k_is); (case c0 => k_is); (case k0 => k_is); (case a1 => k_is); (case l1 => k_is); (case c1 => k_is); (case k1 => k_is); (case a2 => k_is); (case l2 => k_is); (case c2 => k_is); (case k2 => k_is); (case a3 => k_is); (case l3 => k_is); (case c3 => k_is); (case k3 => k_is); (case a4 => k_is); (case l4 => k_is); (case c4 => k_is); (case k4 => k_is); (case a5 => k_is); (case l5 => k_is); (case c5 => k_is); (case k5 => k_is); (case a6 => k_is); (case l6 => k_is); (case c6 => k_is); (case k6 => k_is); (case a7 => k_is); (case l7 => k_is); (case c7 => k_is); (case k7 => k_is); (case a8 => k_is); (case l8 => k_is); (case c8 => k_is); (case k8 => k_is); (case a9 => k_is); (case l9 => k_is); (case c9 => k_is); (case k9 => k_is); (case a10 => k_is); (case l10 => k_is); (case c10 => k_is); (case k10 => k_is); (case a11 => k_is); (case l11 => k_is); (case c11 => k_is); (case k11 => k_is); (case a12 => k_is); (case l12 => k_is); (case c12 => k_is); (case k12 => k_is); (case a13 => k_is); (case l13 => k_is); (case c13 => k_is); (case k13 => k_is); (case a14 => k_is); (case l14 => k_is); (case c14 => k_is); (case k14 => k_is); (case a15 => k_is); (case l15 => k_is); (case c15 => k_is); (case k15 => k_is); (case a16 => k_is); (case l16 => k_is); (case c16 => k_is); (case k16 => k_is); (case a17 => k_is); (case l17 => k_is); (case c17 => k_is); (case k17 => k_is); (case a18 => k_is); (case l18 => k_is); (case c18 => k_is); (case k18 => k_is); (case a19 => k_is); (case l19 => k_is); (case c19 => k_is); (case k19 => k_is); (case a20 => k_is); (case l20 => k_is); (case c20 => k_is); (case k20 => k_is); (case a21 => k_is); (case l21 => k_is); (case c21 => k_is); (case k21 => k_is); (case a22 => k_is); (case l22 => k_is); (case c22 => k_is); (case k22 => k_is); (case a23 => k_is); (case l23 => k_is); (case c23 => k_is); (case k23 => k_is); (case a24 => k_is); (case l24 => k_is); (case c24 => k_is); (case k24 => k_is); (case a25 => k_is); (case l25 => k_is); (case c25 => k_is); (case k25 => k_is); (case a26 => k_is); (case l26 => k_is); (case c26 => k_is); (case k26 => k_is); (case a27 => k_is); (case l27 => k_is); (case c27 => k_is); (case k27 => k_is); (case a28 => k_is); (case l28 => k_is); (case c28 => k_is); (case k28 => k_is); (case a29 => k_is); (case l29 => k_is); (case c29 => k_is); (case k29 => k_is); (case a30 => k_is); (case l30 => k_is); (case c30 => k_is); (case k30 => k_is); (case xa0 => k_is); (case xa1 => k_is); (case xi1 => k_is); (case xl1 => k_is); (case xc1 => k_is); (case xk1 => k_is); (case xt1 => k_is); (case xh1 => k_is); (case xsa1 => k_is); (case xex1 => k_is); (case xty1 => k_is); (case xkC1 => k_is); (case yb1 => kernel_rfl); (case xa2 => k_is); (case xi2 => k_is); (case xl2 => k_is); (case xc2 => k_is); (case xk2 => k_is); (case xt2 => k_is); (case xh2 => k_is); (case xsa2 => k_is); (case xex2 => k_is); (case xty2 => k_is); (case xkC2 => k_is); (case yb2 => kernel_rfl); (case xa3 => k_is); (case xi3 => k_is); (case xl3 => k_is); (case xc3 => k_is); (case xk3 => k_is); (case xt3 => k_is); (case xh3 => k_is); (case xsa3 => k_is); (case xex3 => k_is); (case xty3 => k_is); (case xkC3 => k_is); (case yb3 => kernel_rfl); (case xa4 => k_is); (case xi4 => k_is); (case xl4 => k_is); (case xc4 => k_is); (case xk4 => k_is); (case xt4 => k_is); (case xh4 => k_is); (case xsa4 => k_is); (case xex4 => k_is); (case xty4 => k_is); (case xkC4 => k_is); (case yb4 => kernel_rfl); (case xa5 => k_is); (case xi5 => k_is); (case xl5 => k_is); (case xc5 => k_is); (case xk5 => k_is); (case xt5 => k_is); (case xh5 => k_is); (case xsa5 => k_is); (case xex5 => k_is); (case xty5 => k_is); (case xkC5 => k_is); (case yb5 => kernel_rfl); (case xa6 => k_is); (case xi6 => k_is); (case xl6 => k_is); (case xc6 => k_is); (case xk6 => k_is); (case xt6 => k_is); (case xh6 => k_is); (case xsa6 => k_is); (case xex6 => k_is); (case xty6 => k_is); (case xkC6 => k_is); (case yb6 => kernel_rfl); (case xa7 => k_is); (case yob7 => kernel_rfl); (case xmk7 => k_is); (case xkC7 => k_is); (case xmi0_7 => k_is); (case xml0 => k_is); (case xmc0 => k_is); (case xmk_0 => k_is); (case xmn0 => k_is); (case xmt0 => k_is); (case xmi1_7 => k_is); (case xml1 => k_is); (case xmc1 => k_is); (case xmk_1 => k_is); (case xmn1 => k_is); (case xmi2_7 => k_is); (case xml2 => k_is); (case xmc2 => k_is); (case xmk_2 => k_is); (case xmn2 => k_is); (case xmi3_7 => k_is); (case xml3 => k_is); (case xmc3 => k_is); (case xmk_3 => k_is); (case xmn3 => k_is); (case yfld => kernel_rfl); (case yexm => kernel_rfl); (case yisa => kernel_rfl); (case xrd => k_is); (case xga => k_is); (case xvT => k_is); (case zb_all => k_is); (case zb_enumerate => k_is); (case zb_isinstance => k_is); (case zb_len => k_is); (case zb_list => k_is); (case zb_max => k_is); (case zb_min => k_is); (case zb_range => k_is); (case zb_set => k_is); (case zb_sorted => k_is); (case zb_str => k_is); (case zb_tuple => k_is); (case zc_FIGURES => k_is); (case zc_GREAT => k_is); (case zc_LONGEST => k_is); (case zc_MOST_HEADS => k_is); (case zc_MOST_IN_BODY => k_is); (case zc_MOST_RANKS => k_is); (case zc_MOST_RULES => k_is); (case zc_MOST_SIGNS => k_is); (case zc_OTHERS => k_is); (case zc_SIDES => k_is); (case zk_SIDES => k_is); (case zc_SMALL => k_is)
#print axioms PySem.Challenge.cw_rulestable_k07_texts_there_and_back_holds

