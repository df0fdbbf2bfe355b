import PyProof.Rows.All
import Wide.All
import OpenK.AllK
import Wide.FinOn
import HandS.ForMost
import HandS.Flow
import HandS.NoneIn
import HandS.Strs
import HandS.RevRange
import HandS.Small
import HandS.Defaults
import HandS.Ends
import HandS.Rev
import PyProof.ListStr
import HandS.TupSets
import HandS.Set
import PySem.Challenge.RW_leafpress_k33_whole_insides
set_option Elab.async false
set_option linter.all false
set_option maxRecDepth 100000
section
open PySem PySem.W PyProof.Rows
set_option maxHeartbeats 0
open_top headK for PySem.Challenge.rw_leafpress_k33_whole_insides
end
section
set_option maxHeartbeats 2000000
/-! LpA: data without addresses (D), states by data (StOk), the judgements over them (WE, WT, WA, WG, WI, WS). -/
namespace LP
open PySem PySem.Spec PyProof.Rows L2

/-! ### data -/
inductive D where
  | non | bl (b : Bool) | int (i : Int) | str (s : Str)
  | lst (ds : List D) | tup (ds : List D)
  | ktup (ss : List Str) | scr (ns : List Int) | any | own (a : Addr)

/-- a tuple of texts of the program's top -/
def KTup (K : PySem.W.Frag) (a : Addr) (ss : List Str) : Prop :=
  ∃ (o : Obj) (its : Array Value) (n : Nat), K.lookup a = some o ∧ o.cls = .type "tuple" ∧ o.dict = none ∧ o.data = .seq its n ∧ its.size ≤ sizeLine ∧ Vals (ss.map V.str) its.toList
theorem KTup.sq {K : PySem.W.Frag} {a : Addr} {ss : List Str} {H : Hp} (h : KTup K a ss) : SqT K H a (ss.map V.str) := by
  obtain ⟨o, its, n, h1, h2, h3, h4, h5, h6⟩ := h
  exact .inr ⟨o, its, n, h1, h2, h4, h5, h6⟩
mutual
inductive Rep (K : PySem.W.Frag) (G : Hp) : V → D → Prop
  | non : Rep K G .non .non
  | bl (b : Bool) : Rep K G (.bl b) (.bl b)
  | int (i : Int) : Rep K G (.int i) (.int i)
  | str (x : Str) : Rep K G (.str x) (.str x)
  | lst {a : Addr} {vs : List V} {ds : List D} : G a = some (.lst vs) → RepL K G vs ds → Rep K G (.ref a) (.lst ds)
  | tup {a : Addr} {vs : List V} {ds : List D} : G a = some (.tup vs) → RepL K G vs ds → Rep K G (.ref a) (.tup ds)
  | ktup {a : Addr} {ss : List Str} : KTup K a ss → Rep K G (.ref a) (.ktup ss)
  | scr {a : Addr} {ns : List Int} : SqL K G a (ns.map V.int) → Rep K G (.ref a) (.scr ns)
  | any (v : V) : Rep K G v .any
  | own (a : Addr) : Rep K G (.ref a) (.own a)
inductive RepL (K : PySem.W.Frag) (G : Hp) : List V → List D → Prop
  | nil : RepL K G [] []
  | cons {v : V} {d : D} {vs : List V} {ds : List D} : Rep K G v d → RepL K G vs ds → RepL K G (v :: vs) (d :: ds)
end
section
variable {K : PySem.W.Frag} {G G' : Hp}
theorem sqt_mono {a : Addr} {xs : List V} (e : Same G G') (h : SqT K G a xs) : SqT K G' a xs := by
  rcases h with (h | ⟨o, h⟩) | h
  · exact .inl (.inl (e _ _ h))
  · exact .inl (.inr ⟨o, e _ _ h⟩)
  · exact .inr h
mutual
theorem Rep.mono (e : Same G G') : ∀ {v : V} {d : D}, Rep K G v d → Rep K G' v d
  | _, _, .non => .non
  | _, _, .bl b => .bl b
  | _, _, .int i => .int i
  | _, _, .str x => .str x
  | _, _, .lst h r => .lst (e _ _ h) (RepL.mono e r)
  | _, _, .tup h r => .tup (e _ _ h) (RepL.mono e r)
  | _, _, .ktup h => .ktup h
  | _, _, .scr h => .scr (e.seq h)
  | _, _, .any v => .any v
  | _, _, .own a => .own a
theorem RepL.mono (e : Same G G') : ∀ {vs : List V} {ds : List D}, RepL K G vs ds → RepL K G' vs ds
  | _, _, .nil => .nil
  | _, _, .cons h r => .cons (Rep.mono e h) (RepL.mono e r)
end
theorem Rep.int_inv {v : V} {i : Int} (h : Rep K G v (.int i)) : v = .int i := by cases h; rfl
theorem Rep.bl_inv {v : V} {b : Bool} (h : Rep K G v (.bl b)) : v = .bl b := by cases h; rfl
theorem Rep.str_inv {v : V} {x : Str} (h : Rep K G v (.str x)) : v = .str x := by cases h; rfl
theorem Rep.non_inv {v : V} (h : Rep K G v .non) : v = .non := by cases h; rfl
theorem Rep.lst_inv {v : V} {ds : List D} (h : Rep K G v (.lst ds)) : ∃ a vs, v = .ref a ∧ G a = some (.lst vs) ∧ RepL K G vs ds := by
  cases h with
  | lst h r => exact ⟨_, _, rfl, h, r⟩
theorem Rep.tup_inv {v : V} {ds : List D} (h : Rep K G v (.tup ds)) : ∃ a vs, v = .ref a ∧ G a = some (.tup vs) ∧ RepL K G vs ds := by
  cases h with
  | tup h r => exact ⟨_, _, rfl, h, r⟩
theorem Rep.ktup_inv {v : V} {ss : List Str} (h : Rep K G v (.ktup ss)) : ∃ a, v = .ref a ∧ KTup K a ss := by
  cases h with
  | ktup h => exact ⟨_, rfl, h⟩
theorem Rep.scr_inv {v : V} {ns : List Int} (h : Rep K G v (.scr ns)) : ∃ a, v = .ref a ∧ SqL K G a (ns.map V.int) := by
  cases h with
  | scr h => exact ⟨_, rfl, h⟩
theorem RepL.length : ∀ {vs : List V} {ds : List D}, RepL K G vs ds → vs.length = ds.length
  | _, _, .nil => rfl
  | _, _, .cons _ r => by rw [List.length_cons, List.length_cons, RepL.length r]
theorem RepL.get : ∀ {vs : List V} {ds : List D} {i : Nat} {d : D}, RepL K G vs ds → ds[i]? = some d → ∃ v, vs[i]? = some v ∧ Rep K G v d
  | _, _, _, _, .nil, e => by simp at e
  | _, _, 0, _, .cons h _, e => by simp at e; subst e; exact ⟨_, rfl, h⟩
  | _, _, i + 1, d, .cons _ r, e => by
    obtain ⟨v, h1, h2⟩ := RepL.get (i := i) (d := d) r (by simpa using e)
    exact ⟨v, by simpa using h1, h2⟩
theorem RepL.getV : ∀ {vs : List V} {ds : List D} {i : Nat} {v : V}, RepL K G vs ds → vs[i]? = some v → ∃ d, ds[i]? = some d ∧ Rep K G v d
  | _, _, _, _, .nil, e => by simp at e
  | _, _, 0, _, .cons h _, e => by simp at e; subst e; exact ⟨_, rfl, h⟩
  | _, _, i + 1, v, .cons _ r, e => by
    obtain ⟨d, h1, h2⟩ := RepL.getV (i := i) (v := v) r (by simpa using e)
    exact ⟨d, by simpa using h1, h2⟩
theorem RepL.append : ∀ {vs ws : List V} {ds es : List D}, RepL K G vs ds → RepL K G ws es → RepL K G (vs ++ ws) (ds ++ es)
  | _, _, _, _, .nil, s => s
  | _, _, _, _, .cons h r, s => .cons h (RepL.append r s)
theorem RepL.set : ∀ {vs : List V} {ds : List D} {v : V} {d : D} (i : Nat), RepL K G vs ds → Rep K G v d → RepL K G (vs.set i v) (ds.set i d)
  | _, _, _, _, _, .nil, _ => .nil
  | _, _, _, _, 0, .cons _ r, h => .cons h r
  | _, _, _, _, i + 1, .cons q r, h => .cons q (RepL.set i r h)
theorem RepL.take : ∀ {vs : List V} {ds : List D} (n : Nat), RepL K G vs ds → RepL K G (vs.take n) (ds.take n)
  | _, _, 0, _ => .nil
  | _, _, _ + 1, .nil => .nil
  | _, _, n + 1, .cons h r => .cons h (RepL.take n r)
theorem RepL.drop : ∀ {vs : List V} {ds : List D} (n : Nat), RepL K G vs ds → RepL K G (vs.drop n) (ds.drop n)
  | _, _, 0, r => r
  | _, _, _ + 1, .nil => .nil
  | _, _, n + 1, .cons _ r => RepL.drop n r
theorem RepL.reverse : ∀ {vs : List V} {ds : List D}, RepL K G vs ds → RepL K G vs.reverse ds.reverse
  | _, _, .nil => .nil
  | _, _, .cons h r => by
    rw [List.reverse_cons, List.reverse_cons]
    exact (RepL.reverse r).append (.cons h .nil)
theorem RepL.ints_inv : ∀ {vs : List V} {ns : List Int}, RepL K G vs (ns.map D.int) → vs = ns.map V.int
  | _, [], .nil => rfl
  | _, _ :: _, .cons h r => by rw [List.map_cons, RepL.ints_inv r, h.int_inv]
theorem RepL.ints : ∀ {ns : List Int}, RepL K G (ns.map V.int) (ns.map D.int)
  | [] => .nil
  | n :: r => .cons (.int n) RepL.ints
theorem RepL.strs_inv : ∀ {vs : List V} {ns : List Str}, RepL K G vs (ns.map D.str) → vs = ns.map V.str
  | _, [], .nil => rfl
  | _, _ :: _, .cons h r => by rw [List.map_cons, RepL.strs_inv r, h.str_inv]
theorem RepL.strs : ∀ {ns : List Str}, RepL K G (ns.map V.str) (ns.map D.str)
  | [] => .nil
  | n :: r => .cons (.str n) RepL.strs
theorem RepL.rep {v : V} {d : D} (h : Rep K G v d) : ∀ n : Nat, RepL K G (List.replicate n v) (List.replicate n d)
  | 0 => .nil
  | n + 1 => .cons h (RepL.rep h n)
end

/-! ### what may change, and what is everybody's -/
/-- what may be held: data, or the i-th of the things that may change -/
inductive SV where
  | dat (d : D) | ob (i : Nat)
inductive Ct where
  | lst (ds : List D) | dK (f : Key → Option D) (n : Nat) | dT (f : List Key → Bool) (n : Nat) | at (a : Addr) (ds : List D)
def pub (M : Addr → Bool) (H : Hp) : Hp := fun b => if M b = true then none else H b
def Mx (M : Addr → Bool) (ad : List Addr) : Addr → Bool := fun b => M b || decide (b ∈ ad)
theorem pub_same {M : Addr → Bool} {H : Hp} : Same (pub M H) H := fun b o e => by
  unfold pub at e
  split at e
  · cases e
  · exact e
theorem pub_of {M : Addr → Bool} {H : Hp} {b : Addr} (h : M b = false) : pub M H b = H b := by
  unfold pub
  rw [if_neg (by rw [h]; decide)]
theorem pub_none {M : Addr → Bool} {H : Hp} {b : Addr} (h : M b = true) : pub M H b = none := by
  unfold pub
  rw [if_pos h]
theorem pub_up {M M' : Addr → Bool} {H : Hp} (h : ∀ b, M' b = true → M b = true) : Same (pub M H) (pub M' H) := fun b o e => by
  by_cases m : M b = true
  · rw [pub_none m] at e; cases e
  · rw [pub_of (by simpa using m)] at e
    have : M' b = false := by
      cases q : M' b with
      | false => rfl
      | true => exact absurd (h b q) m
    rw [pub_of this]; exact e
theorem mx_of {M : Addr → Bool} {ad : List Addr} {b : Addr} : Mx M ad b = true ↔ M b = true ∨ b ∈ ad := by
  unfold Mx
  simp

def CtOk (K : PySem.W.Frag) (G : Hp) (a : Addr) (o : HO) : Ct → Prop
  | .lst ds => ∃ vs, o = .lst vs ∧ RepL K G vs ds
  | .dK f n => ∃ ws, o = .dK ws ∧ ws.length ≤ n ∧ (∀ k, valV ws k = none ↔ f k = none) ∧ ∀ k v d, valV ws k = some v → f k = some d → Rep K G v d
  | .dT f n => ∃ ws, o = .dT ws ∧ ws.length ≤ n ∧ ∀ k, (valV ws k).isSome = f k
  | .at b ds => a = b ∧ ∃ vs, o = .lst vs ∧ RepL K G vs ds
def SvOk (K : PySem.W.Frag) (G : Hp) (ad : List Addr) (v : V) : SV → Prop
  | .dat d => Rep K G v d
  | .ob i => ∃ a, ad[i]? = some a ∧ v = .ref a
inductive SvsOk (K : PySem.W.Frag) (G : Hp) (ad : List Addr) : List V → List SV → Prop
  | nil : SvsOk K G ad [] []
  | cons {v : V} {s : SV} {vs : List V} {ss : List SV} : SvOk K G ad v s → SvsOk K G ad vs ss → SvsOk K G ad (v :: vs) (s :: ss)
section
variable {K : PySem.W.Frag} {G G' : Hp} {ad ad' : List Addr}
theorem CtOk.mono (e : Same G G') {a : Addr} {o : HO} : ∀ {c : Ct}, CtOk K G a o c → CtOk K G' a o c
  | .lst _, ⟨vs, h, r⟩ => ⟨vs, h, r.mono e⟩
  | .dK _ _, ⟨ws, h, l, z, r⟩ => ⟨ws, h, l, z, fun k v d h1 h2 => (r k v d h1 h2).mono e⟩
  | .dT _ _, h => h
  | .at _ _, ⟨z, vs, h, r⟩ => ⟨z, vs, h, r.mono e⟩
theorem CtOk.mutable {a : Addr} {o : HO} : ∀ {c : Ct}, CtOk K G a o c → Mut (some o)
  | .lst _, ⟨_, h, _⟩ => by subst h; trivial
  | .dK _ _, ⟨_, h, _⟩ => by subst h; trivial
  | .dT _ _, ⟨_, h, _⟩ => by subst h; trivial
  | .at _ _, ⟨_, _, h, _⟩ => by subst h; trivial
theorem take_get {α : Type} {l l' : List α} {i : Nat} {a : α} (h : l'.take l.length = l) (e : l[i]? = some a) : l'[i]? = some a := by
  have hi : i < l.length := (List.getElem?_eq_some_iff.mp e).1
  rw [← h, List.getElem?_take_of_lt hi] at e
  exact e
theorem SvOk.mono (e : Same G G') (ha : ad'.take ad.length = ad) {v : V} : ∀ {s : SV}, SvOk K G ad v s → SvOk K G' ad' v s
  | .dat _, h => Rep.mono e h
  | .ob _, ⟨a, h, z⟩ => ⟨a, take_get ha h, z⟩
theorem SvsOk.mono (e : Same G G') (ha : ad'.take ad.length = ad) : ∀ {vs : List V} {ss : List SV}, SvsOk K G ad vs ss → SvsOk K G' ad' vs ss
  | _, _, .nil => .nil
  | _, _, .cons h r => .cons (h.mono e ha) (SvsOk.mono e ha r)
theorem SvsOk.length : ∀ {vs : List V} {ss : List SV}, SvsOk K G ad vs ss → vs.length = ss.length
  | _, _, .nil => rfl
  | _, _, .cons _ r => by rw [List.length_cons, List.length_cons, SvsOk.length r]
theorem SvsOk.get : ∀ {vs : List V} {ss : List SV} {i : Nat} {s : SV}, SvsOk K G ad vs ss → ss[i]? = some s → ∃ v, vs[i]? = some v ∧ SvOk K G ad v s
  | _, _, _, _, .nil, e => by simp at e
  | _, _, 0, _, .cons h _, e => by simp at e; subst e; exact ⟨_, rfl, h⟩
  | _, _, i + 1, s, .cons _ r, e => by
    obtain ⟨v, h1, h2⟩ := SvsOk.get (i := i) (s := s) r (by simpa using e)
    exact ⟨v, by simpa using h1, h2⟩
theorem SvsOk.dats : ∀ {vs : List V} {ds : List D}, SvsOk K G ad vs (ds.map SV.dat) → RepL K G vs ds
  | _, [], .nil => .nil
  | _, _ :: _, .cons h r => .cons h (SvsOk.dats r)
theorem SvsOk.of_dats : ∀ {vs : List V} {ds : List D}, RepL K G vs ds → SvsOk K G ad vs (ds.map SV.dat)
  | _, _, .nil => .nil
  | _, _, .cons h r => .cons h (SvsOk.of_dats r)
theorem SvsOk.append : ∀ {vs ws : List V} {ss ts : List SV}, SvsOk K G ad vs ss → SvsOk K G ad ws ts → SvsOk K G ad (vs ++ ws) (ss ++ ts)
  | _, _, _, _, .nil, s => s
  | _, _, _, _, .cons h r, s => .cons h (SvsOk.append r s)
end

structure MuOk (K : PySem.W.Frag) (M : Addr → Bool) (H : Hp) (ad : List Addr) (mu : List Ct) : Prop where
  fin : ∀ b, M b = true → (H b).isSome = true
  nd : ad.Nodup
  out : ∀ a ∈ ad, M a = false
  len : ad.length = mu.length
  ct : ∀ (i : Nat) (a : Addr) (c : Ct), ad[i]? = some a → mu[i]? = some c → ∃ o, H a = some o ∧ CtOk K (pub (Mx M ad) H) a o c

/-- what stands around: what may not be touched and how it is, what all had at the beginning, the changing things of the beginning -/
structure Bg where
  M : Addr → Bool
  HM : Hp
  B : Hp
  ab : List Addr
abbrev Rho := List (Option SV)
structure StOk (K : PySem.W.Frag) (g : Bg) (H : Hp) (ad : List Addr) (mu : List Ct) (σ : L2.St) (ρ : Rho) : Prop where
  mu : MuOk K g.M H ad mu
  prot : ∀ b, g.M b = true → H b = g.HM b
  pre : ad.take g.ab.length = g.ab
  base : Same g.B (pub (Mx g.M ad) H)
  ln : ρ.length = σ.length
  sl : ∀ (i : Nat) (s : SV), ρ[i]? = some (some s) → ∃ v, σ[i]? = some (some v) ∧ SvOk K (pub (Mx g.M ad) H) ad v s

def Bg.here (g : Bg) (H : Hp) (ad : List Addr) : Bg := ⟨g.M, g.HM, pub (Mx g.M ad) H, ad⟩
def Bg.now (g : Bg) (H : Hp) (ad : List Addr) : Bg := ⟨g.M, g.HM, pub (Mx g.M ad) H, g.ab⟩
section
variable {K : PySem.W.Frag} {g : Bg} {H H' : Hp} {ad ad' : List Addr} {mu mu' : List Ct} {σ σ' : L2.St} {ρ ρ' : Rho} {v : V} {s : SV}
theorem take_trans {α : Type} {a b c : List α} (h1 : b.take a.length = a) (h2 : c.take b.length = b) : c.take a.length = a := by
  have hl : a.length ≤ b.length := by
    have := congrArg List.length h1
    rw [List.length_take] at this
    omega
  have q : a.length ≤ min b.length c.length := by
    have := congrArg List.length h2
    rw [List.length_take] at this
    omega
  have z : c.take a.length = (c.take b.length).take a.length := by
    rw [List.take_take]
    congr 1
    omega
  rw [z, h2, h1]
theorem StOk.here (S : StOk K g H ad mu σ ρ) : StOk K (g.here H ad) H ad mu σ ρ := ⟨S.mu, S.prot, List.take_length, Same.refl _, S.ln, S.sl⟩
theorem StOk.now (S : StOk K g H ad mu σ ρ) : StOk K (g.now H ad) H ad mu σ ρ := ⟨S.mu, S.prot, S.pre, Same.refl _, S.ln, S.sl⟩
theorem StOk.back (S : StOk K g H ad mu σ ρ) (T : StOk K (g.here H ad) H' ad' mu' σ' ρ') : StOk K g H' ad' mu' σ' ρ' :=
  ⟨T.mu, T.prot, take_trans S.pre T.pre, S.base.trans T.base, T.ln, T.sl⟩
theorem StOk.then (S : StOk K g H ad mu σ ρ) (T : StOk K (g.now H ad) H' ad' mu' σ' ρ') : StOk K g H' ad' mu' σ' ρ' :=
  ⟨T.mu, T.prot, T.pre, S.base.trans T.base, T.ln, T.sl⟩
theorem SvOk.keep (h : SvOk K (pub (Mx g.M ad) H) ad v s) (T : StOk K (g.here H ad) H' ad' mu' σ' ρ') : SvOk K (pub (Mx g.M ad') H') ad' v s := h.mono T.base T.pre
theorem SvsOk.keep {vs : List V} {ss : List SV} (h : SvsOk K (pub (Mx g.M ad) H) ad vs ss) (T : StOk K (g.here H ad) H' ad' mu' σ' ρ') : SvsOk K (pub (Mx g.M ad') H') ad' vs ss := h.mono T.base T.pre
/-- the slots of before, behind what ran over other slots -/
theorem StOk.reslot {σ2 : L2.St} {ρ2 : Rho} (S : StOk K g H ad mu σ ρ) (T : StOk K (g.here H ad) H' ad' mu' σ2 ρ2) : StOk K g H' ad' mu' σ ρ :=
  ⟨T.mu, T.prot, take_trans S.pre T.pre, S.base.trans T.base, S.ln, fun i s e => by
    obtain ⟨v, h1, h2⟩ := S.sl i s e
    exact ⟨v, h1, h2.mono T.base T.pre⟩⟩
theorem MuOk.free (S : MuOk K g.M H ad mu) {p : Addr} (hp : H p = none) : Mx g.M ad p = false := by
  cases q : Mx g.M ad p with
  | false => rfl
  | true =>
    rcases mx_of.mp q with h | h
    · have := S.fin p h
      rw [hp] at this; cases this
    · obtain ⟨i, hi⟩ := List.getElem?_of_mem h
      have hlt : i < mu.length := by
        have := (List.getElem?_eq_some_iff.mp hi).1
        rw [S.len] at this; exact this
      obtain ⟨o, ho, _⟩ := S.ct i p mu[i] hi (List.getElem?_eq_getElem hlt)
      rw [hp] at ho; cases ho
theorem pub_upd {M : Addr → Bool} {p : Addr} {o : HO} (h : M p = false) : pub M (upd H p o) = upd (pub M H) p o := by
  funext b
  unfold pub upd
  by_cases e : b = p
  · subst e; simp [h]
  · simp [e]
theorem pub_updM {M : Addr → Bool} {p : Addr} {o : HO} (h : M p = true) : pub M (upd H p o) = pub M H := by
  funext b
  unfold pub upd
  by_cases e : b = p
  · subst e; simp [h]
  · simp [e]
theorem same_new {G : Hp} {p : Addr} {o : HO} (h : G p = none) : Same G (upd G p o) := fun b x e => by
  rw [upd_ne (ne_of_none e h)]
  exact e
/-- the heap grows where nothing stood: for all to read -/
theorem StOk.alloc (S : StOk K g H ad mu σ ρ) {p : Addr} {o : HO} (hp : H p = none) : StOk K g (upd H p o) ad mu σ ρ ∧ pub (Mx g.M ad) (upd H p o) = upd (pub (Mx g.M ad) H) p o ∧ Same (pub (Mx g.M ad) H) (pub (Mx g.M ad) (upd H p o)) := by
  have hf := S.mu.free hp
  have e := pub_upd (o := o) (H := H) hf
  have hs : Same (pub (Mx g.M ad) H) (pub (Mx g.M ad) (upd H p o)) := by
    rw [e]
    exact same_new (by rw [pub_of hf]; exact hp)
  have ne : ∀ b, H b ≠ none → b ≠ p := fun b hb q => hb (q ▸ hp)
  refine ⟨⟨⟨fun b hb => ?_, S.mu.nd, S.mu.out, S.mu.len, fun i a c h1 h2 => ?_⟩, fun b hb => ?_, S.pre, S.base.trans hs, S.ln, fun i s h => ?_⟩, e, hs⟩
  · have q := S.mu.fin b hb
    rw [upd_ne (ne b (fun z => by rw [z] at q; cases q))]; exact q
  · obtain ⟨o', h3, h4⟩ := S.mu.ct i a c h1 h2
    refine ⟨o', ?_, h4.mono hs⟩
    rw [upd_ne (ne a (fun z => by rw [z] at h3; cases h3))]; exact h3
  · have q := S.mu.fin b hb
    rw [upd_ne (ne b (fun z => by rw [z] at q; cases q))]; exact S.prot b hb
  · obtain ⟨v, h1, h2⟩ := S.sl i s h
    exact ⟨v, h1, h2.mono hs List.take_length⟩
theorem take_app {α : Type} {a b c : List α} (h : b.take a.length = a) : (b ++ c).take a.length = a := by
  have hl : a.length ≤ b.length := by
    have := congrArg List.length h
    rw [List.length_take] at this
    omega
  rw [List.take_append_of_le_length hl]
  exact h
/-- .. as a new thing that may change -/
theorem StOk.allocM (S : StOk K g H ad mu σ ρ) {p : Addr} {o : HO} {c : Ct} (hp : H p = none) (hc : CtOk K (pub (Mx g.M ad) H) p o c) : StOk K g (upd H p o) (ad ++ [p]) (mu ++ [c]) σ ρ ∧ pub (Mx g.M (ad ++ [p])) (upd H p o) = pub (Mx g.M ad) H := by
  have hf := S.mu.free hp
  have hfM : g.M p = false := by
    cases q : g.M p with
    | false => rfl
    | true => rw [mx_of.mpr (.inl q)] at hf; cases hf
  have hfa : p ∉ ad := fun q => by rw [mx_of.mpr (.inr q)] at hf; cases hf
  have e : pub (Mx g.M (ad ++ [p])) (upd H p o) = pub (Mx g.M ad) H := by
    funext b
    by_cases hb : b = p
    · subst hb
      rw [pub_none (mx_of.mpr (.inr (by simp))), pub_of hf, hp]
    · have : Mx g.M (ad ++ [p]) b = Mx g.M ad b := by
        unfold Mx; simp [hb]
      unfold pub
      rw [this, upd_ne hb]
  have ne : ∀ b, H b ≠ none → b ≠ p := fun b hb q => hb (q ▸ hp)
  refine ⟨⟨⟨fun b hb => ?_, ?_, fun a ha => ?_, by simp [S.mu.len], fun i a d h1 h2 => ?_⟩, fun b hb => ?_, take_app S.pre, by rw [e]; exact S.base, S.ln, fun i s h => ?_⟩, e⟩
  · have q := S.mu.fin b hb
    rw [upd_ne (ne b (fun z => by rw [z] at q; cases q))]; exact q
  · rw [List.nodup_append]
    refine ⟨S.mu.nd, by simp, fun a ha b hb z => ?_⟩
    rw [List.mem_singleton] at hb
    exact hfa (hb ▸ z ▸ ha)
  · rcases List.mem_append.mp ha with h | h
    · exact S.mu.out a h
    · rw [List.mem_singleton] at h; rw [h]; exact hfM
  · rw [e]
    by_cases hi : i < ad.length
    · rw [List.getElem?_append_left hi] at h1
      rw [List.getElem?_append_left (by rw [← S.mu.len]; exact hi)] at h2
      obtain ⟨o', h3, h4⟩ := S.mu.ct i a d h1 h2
      refine ⟨o', ?_, h4⟩
      rw [upd_ne (ne a (fun z => by rw [z] at h3; cases h3))]; exact h3
    · have hi' : i = ad.length := by
        have := (List.getElem?_eq_some_iff.mp h1).1
        rw [List.length_append, List.length_singleton] at this; omega
      subst hi'
      rw [List.getElem?_append_right (Nat.le_refl _), Nat.sub_self] at h1
      rw [S.mu.len, List.getElem?_append_right (Nat.le_refl _), Nat.sub_self] at h2
      cases h1; cases h2
      exact ⟨o, upd_same, hc⟩
  · have q := S.mu.fin b hb
    rw [upd_ne (ne b (fun z => by rw [z] at q; cases q))]; exact S.prot b hb
  · obtain ⟨v, h1, h2⟩ := S.sl i s h
    rw [e]
    exact ⟨v, h1, h2.mono (Same.refl _) (by rw [List.take_append_of_le_length (Nat.le_refl _), List.take_length])⟩
/-- the i-th changing thing is changed -/
theorem StOk.change (S : StOk K g H ad mu σ ρ) {i : Nat} {a : Addr} {o : HO} {c : Ct} (ha : ad[i]? = some a) (hc : CtOk K (pub (Mx g.M ad) H) a o c) : StOk K g (upd H a o) ad (mu.set i c) σ ρ ∧ pub (Mx g.M ad) (upd H a o) = pub (Mx g.M ad) H := by
  have hm : a ∈ ad := List.mem_of_getElem? ha
  have e : pub (Mx g.M ad) (upd H a o) = pub (Mx g.M ad) H := pub_updM (mx_of.mpr (.inr hm))
  have neM : ∀ b, g.M b = true → b ≠ a := fun b hb q => by rw [q, S.mu.out a hm] at hb; cases hb
  refine ⟨⟨⟨fun b hb => ?_, S.mu.nd, S.mu.out, by simp [S.mu.len], fun j b d h1 h2 => ?_⟩, fun b hb => ?_, S.pre, by rw [e]; exact S.base, S.ln, fun j s h => ?_⟩, e⟩
  · rw [upd_ne (neM b hb)]; exact S.mu.fin b hb
  · rw [e]
    by_cases hj : i = j
    · subst hj
      rw [ha] at h1; cases h1
      have : i < mu.length := by rw [← S.mu.len]; exact (List.getElem?_eq_some_iff.mp ha).1
      rw [List.getElem?_set_self this] at h2; cases h2
      exact ⟨o, upd_same, hc⟩
    · rw [List.getElem?_set_ne hj] at h2
      obtain ⟨o', h3, h4⟩ := S.mu.ct j b d h1 h2
      refine ⟨o', ?_, h4⟩
      have nb : b ≠ a := fun z => by
        subst z
        exact hj ((List.getElem?_inj (List.getElem?_eq_some_iff.mp ha).1 S.mu.nd).mp (ha.trans h1.symm))
      rw [upd_ne nb]; exact h3
  · rw [upd_ne (neM b hb)]; exact S.prot b hb
  · rw [e]; exact S.sl j s h
/-- a slot is set -/
theorem StOk.put (S : StOk K g H ad mu σ ρ) (i : Nat) (h : SvOk K (pub (Mx g.M ad) H) ad v s) : StOk K g H ad mu (σ.set i (some v)) (ρ.set i (some s)) := by
  refine ⟨S.mu, S.prot, S.pre, S.base, by simp [S.ln], fun j t e => ?_⟩
  by_cases hj : i = j
  · subst hj
    have hi : i < ρ.length := by
      have := (List.getElem?_eq_some_iff.mp e).1
      simpa using this
    rw [List.getElem?_set_self hi] at e; cases e
    exact ⟨v, by rw [List.getElem?_set_self (by rw [← S.ln]; exact hi)], h⟩
  · rw [List.getElem?_set_ne hj] at e
    rw [List.getElem?_set_ne hj]
    exact S.sl j t e
end

/-! ### the judgements -/
def WE (K : PySem.W.Frag) (te : TE) (ρ : Rho) (mu : List Ct) (Φ : SV → List Ct → Prop) : Prop := ∀ (g : Bg) (H : Hp) (ad : List Addr) (σ : L2.St) (Q : VK), StOk K g H ad mu σ ρ →
  (∀ v s H' ad' mu', StOk K g H' ad' mu' σ ρ → SvOk K (pub (Mx g.M ad') H') ad' v s → Φ s mu' → Q v H') → te σ H Q
def WT (K : PySem.W.Frag) (tt : TT) (ρ : Rho) (mu : List Ct) (Φ : Bool → List Ct → Prop) : Prop := ∀ (g : Bg) (H : Hp) (ad : List Addr) (σ : L2.St) (Q : Bool → Hp → Prop), StOk K g H ad mu σ ρ →
  (∀ b H' ad' mu', StOk K g H' ad' mu' σ ρ → Φ b mu' → Q b H') → tt σ H Q
def WA (K : PySem.W.Frag) (ta : TA) (ρ : Rho) (mu : List Ct) (Φ : List SV → List Ct → Prop) : Prop := ∀ (g : Bg) (H : Hp) (ad : List Addr) (σ : L2.St) (Q : List V → Hp → Prop), StOk K g H ad mu σ ρ →
  (∀ vs ss H' ad' mu', StOk K g H' ad' mu' σ ρ → SvsOk K (pub (Mx g.M ad') H') ad' vs ss → Φ ss mu' → Q vs H') → ta σ H Q
/-- a target takes a value -/
def WG (K : PySem.W.Frag) (tg : TG) (s : SV) (ρ : Rho) (mu : List Ct) (Ψ : Rho → List Ct → Prop) : Prop := ∀ (g : Bg) (H : Hp) (ad : List Addr) (σ : L2.St) (v : V) (Q : L2.St → Hp → Prop), StOk K g H ad mu σ ρ → SvOk K (pub (Mx g.M ad) H) ad v s →
  (∀ σ' ρ' H' ad' mu', StOk K g H' ad' mu' σ' ρ' → Ψ ρ' mu' → Q σ' H') → tg v σ H Q
def WGs (K : PySem.W.Frag) (tg : TGs) (ss : List SV) (ρ : Rho) (mu : List Ct) (Ψ : Rho → List Ct → Prop) : Prop := ∀ (g : Bg) (H : Hp) (ad : List Addr) (σ : L2.St) (vs : List V) (Q : L2.St → Hp → Prop), StOk K g H ad mu σ ρ → SvsOk K (pub (Mx g.M ad) H) ad vs ss →
  (∀ σ' ρ' H' ad' mu', StOk K g H' ad' mu' σ' ρ' → Ψ ρ' mu' → Q σ' H') → tg vs σ H Q
/-- an operation on two values, a call on values -/
def WR (K : PySem.W.Frag) (r : R2) (x y : SV) (ρ : Rho) (mu : List Ct) (Φ : SV → List Ct → Prop) : Prop := ∀ (g : Bg) (H : Hp) (ad : List Addr) (σ : L2.St) (vx vy : V) (Q : VK), StOk K g H ad mu σ ρ →
  SvOk K (pub (Mx g.M ad) H) ad vx x → SvOk K (pub (Mx g.M ad) H) ad vy y →
  (∀ v s H' ad' mu', StOk K g H' ad' mu' σ ρ → SvOk K (pub (Mx g.M ad') H') ad' v s → Φ s mu' → Q v H') → r vx vy H Q
def WC (K : PySem.W.Frag) (r : List V → Hp → VK → Prop) (ss : List SV) (ρ : Rho) (mu : List Ct) (Φ : SV → List Ct → Prop) : Prop := ∀ (g : Bg) (H : Hp) (ad : List Addr) (σ : L2.St) (vs : List V) (Q : VK), StOk K g H ad mu σ ρ →
  SvsOk K (pub (Mx g.M ad) H) ad vs ss →
  (∀ v s H' ad' mu', StOk K g H' ad' mu' σ ρ → SvOk K (pub (Mx g.M ad') H') ad' v s → Φ s mu' → Q v H') → r vs H Q
/-- what is walked: the items in turn -/
structure ItOk (K : PySem.W.Frag) (g : Bg) (J : It) (xs : List D) : Prop where
  step : ∀ (H : Hp) (ad : List Addr) (mu : List Ct) (σ : L2.St) (ρ : Rho) (i : Nat) (d : D), StOk K g H ad mu σ ρ → xs[i]? = some d → J.go i H ∧ ∀ v H', J.yld i H v H' → StOk K g H' ad mu σ ρ ∧ Same (pub (Mx g.M ad) H) (pub (Mx g.M ad) H') ∧ Rep K (pub (Mx g.M ad) H') v d
  stop : ∀ (H : Hp) (ad : List Addr) (mu : List Ct) (σ : L2.St) (ρ : Rho), StOk K g H ad mu σ ρ → J.stop xs.length H
def WI (K : PySem.W.Frag) (wi : TI) (ρ : Rho) (mu : List Ct) (Ψ : List D → List Ct → Prop) : Prop := ∀ (g : Bg) (H : Hp) (ad : List Addr) (σ : L2.St) (R : It → Hp → Prop), StOk K g H ad mu σ ρ →
  (∀ J H' ad' mu' xs, StOk K g H' ad' mu' σ ρ → (∀ M HM ab, ItOk K ⟨M, HM, pub (Mx g.M ad') H', ab⟩ J xs) → Ψ xs mu' → R J H') → wi σ H R
structure En where
  nx : Rho → List Ct → Prop
  rt : SV → List Ct → Prop
  bk : Rho → List Ct → Prop := fun _ _ => False
  ct : Rho → List Ct → Prop := fun _ _ => False
/-- what lies behind a return: the first n changing things, perhaps a new one -/
structure RetOk (K : PySem.W.Frag) (g : Bg) (H : Hp) (v : V) (s : SV) (mu : List Ct) (ad : List Addr) : Prop where
  pre : ad.take g.ab.length = g.ab
  mu : MuOk K g.M H ad mu
  prot : ∀ b, g.M b = true → H b = g.HM b
  base : Same g.B (pub (Mx g.M ad) H)
  val : SvOk K (pub (Mx g.M ad) H) ad v s
def WS (K : PySem.W.Frag) (n : Nat) (ts : TS) (ρ : Rho) (mu : List Ct) (E : En) : Prop := ∀ (g : Bg) (H : Hp) (ad : List Addr) (σ : L2.St) (D : Ends), g.ab.length = n → StOk K g H ad mu σ ρ →
  (∀ σ' ρ' H' ad' mu', StOk K g H' ad' mu' σ' ρ' → E.nx ρ' mu' → D.nx σ' H') →
  (∀ v s H' ad' mu', RetOk K g H' v s mu' ad' → E.rt s mu' → D.rt v H') →
  (∀ σ' ρ' H' ad' mu', StOk K g H' ad' mu' σ' ρ' → E.bk ρ' mu' → D.bk σ' H') →
  (∀ σ' ρ' H' ad' mu', StOk K g H' ad' mu' σ' ρ' → E.ct ρ' mu' → D.ct σ' H') → ts D σ H
end LP
end

section
set_option maxHeartbeats 2000000
/-! LpB: the rules of the judgements: names, constants, operators, displays, tests, statements, loops, comprehensions. -/
namespace LP
open PySem PySem.Spec PyProof.Rows L2

def SV.toD : SV → D
  | .dat d => d
  | .ob _ => .any
theorem SvOk.toD {K : PySem.W.Frag} {G : Hp} {ad : List Addr} {v : V} : ∀ {s : SV}, SvOk K G ad v s → Rep K G v s.toD
  | .dat _, h => h
  | .ob _, _ => .any v
theorem SvsOk.toDs {K : PySem.W.Frag} {G : Hp} {ad : List Addr} : ∀ {vs : List V} {ss : List SV}, SvsOk K G ad vs ss → RepL K G vs (ss.map SV.toD)
  | _, _, .nil => .nil
  | _, _, .cons h r => .cons h.toD (SvsOk.toDs r)

theorem sv_d {K : PySem.W.Frag} {G : Hp} {ad : List Addr} {v : V} {d : D} (h : Rep K G v d) : SvOk K G ad v (.dat d) := h
theorem sv_new {K : PySem.W.Frag} {G : Hp} {ad : List Addr} {p : Addr} {mu : List Ct} (h : ad.length = mu.length) : SvOk K G (ad ++ [p]) (.ref p) (.ob mu.length) :=
  ⟨p, by rw [← h, List.getElem?_append_right (Nat.le_refl _), Nat.sub_self]; rfl, rfl⟩
section
variable {K : PySem.W.Frag} {ρ : Rho} {mu : List Ct} {Φ : SV → List Ct → Prop} {ta tb te tl : TE} {t : TA}

/-! ### names, constants -/
theorem we_var {i : Nat} {s : SV} (h : ρ[i]? = some (some s)) (q : Φ s mu) : WE K (tVar i) ρ mu Φ := fun g H ad σ Q S k => by
  obtain ⟨v, h1, h2⟩ := S.sl i s h
  exact ⟨v, h1, k v s H ad mu S h2 q⟩
theorem we_int {i : Int} (q : Φ (.dat (.int i)) mu) : WE K (tC (.int i)) ρ mu Φ := fun g H ad σ Q S k => k _ _ H ad mu S (sv_d <| Rep.int i) q
theorem we_str {x : Str} (q : Φ (.dat (.str x)) mu) : WE K (tC (.str x)) ρ mu Φ := fun g H ad σ Q S k => k _ _ H ad mu S (sv_d <| Rep.str x) q
theorem we_bl {b : Bool} (q : Φ (.dat (.bl b)) mu) : WE K (tC (.bl b)) ρ mu Φ := fun g H ad σ Q S k => k _ _ H ad mu S (sv_d <| Rep.bl b) q
theorem we_non (q : Φ (.dat .non) mu) : WE K (tC .non) ρ mu Φ := fun g H ad σ Q S k => k _ _ H ad mu S (sv_d Rep.non) q
theorem we_ktup {a : Addr} {ss : List Str} (h : KTup K a ss) (q : Φ (.dat (.ktup ss)) mu) : WE K (tC (.ref a)) ρ mu Φ := fun g H ad σ Q S k => k _ _ H ad mu S (sv_d <| Rep.ktup h) q
theorem we_mono {Φ' : SV → List Ct → Prop} (h : WE K te ρ mu Φ') (q : ∀ s m, Φ' s m → Φ s m) : WE K te ρ mu Φ := fun g H ad σ Q S k => h g H ad σ Q S fun v s H' ad' mu' S' hv hs => k v s H' ad' mu' S' hv (q s mu' hs)

/-! ### operators -/
theorem we_op {r : R2} (h : WE K ta ρ mu fun x mu1 => WE K tb ρ mu1 fun y mu2 => WR K r x y ρ mu2 Φ) : WE K (tOp r ta tb) ρ mu Φ := fun g H ad σ Q S k =>
  h g H ad σ _ S fun x sx H1 ad1 mu1 S1 hx h1 =>
    h1 (g.here H1 ad1) H1 ad1 σ _ S1.here fun y sy H2 ad2 mu2 S2 hy h2 =>
      h2 g H2 ad2 σ x y Q (S1.back S2) (hx.keep S2) hy k
theorem wr_I0 {g : Int → Int → V} {d : D} {i j : Int} (hd : ∀ G, Rep K G (g i j) d) (q : Φ (.dat d) mu) : WR K (rI0 g) (.dat (.int i)) (.dat (.int j)) ρ mu Φ := fun b H ad σ vx vy Q S hx hy k =>
  ⟨i, j, hx.int_inv, hy.int_inv, k _ _ H ad mu S (sv_d (hd _)) q⟩
theorem wr_add {i j : Int} (q : Φ (.dat (.int (i + j))) mu) : WR K (rI0 fun i j => .int (i + j)) (.dat (.int i)) (.dat (.int j)) ρ mu Φ := wr_I0 (fun _ => .int _) q
theorem wr_sub {i j : Int} (q : Φ (.dat (.int (i - j))) mu) : WR K (rI0 fun i j => .int (i - j)) (.dat (.int i)) (.dat (.int j)) ρ mu Φ := wr_I0 (fun _ => .int _) q
theorem wr_lt {i j : Int} (q : Φ (.dat (.bl (decide (i < j)))) mu) : WR K (rI0 fun i j => .bl (decide (i < j))) (.dat (.int i)) (.dat (.int j)) ρ mu Φ := wr_I0 (fun _ => .bl _) q
theorem wr_le {i j : Int} (q : Φ (.dat (.bl (decide (i ≤ j)))) mu) : WR K (rI0 fun i j => .bl (decide (i ≤ j))) (.dat (.int i)) (.dat (.int j)) ρ mu Φ := wr_I0 (fun _ => .bl _) q
theorem wr_gt {i j : Int} (q : Φ (.dat (.bl (decide (j < i)))) mu) : WR K (rI0 fun i j => .bl (decide (j < i))) (.dat (.int i)) (.dat (.int j)) ρ mu Φ := wr_I0 (fun _ => .bl _) q
theorem wr_ge {i j : Int} (q : Φ (.dat (.bl (decide (j ≤ i)))) mu) : WR K (rI0 fun i j => .bl (decide (j ≤ i))) (.dat (.int i)) (.dat (.int j)) ρ mu Φ := wr_I0 (fun _ => .bl _) q
theorem wr_mul {i j : Int} (h : CMul i j) (q : Φ (.dat (.int (i * j))) mu) : WR K (rI CMul fun i j => .int (i * j)) (.dat (.int i)) (.dat (.int j)) ρ mu Φ := fun b H ad σ vx vy Q S hx hy k =>
  ⟨i, j, hx.int_inv, hy.int_inv, h, k _ _ H ad mu S (sv_d <| Rep.int _) q⟩
theorem wr_fdiv {i j : Int} (h : CDiv i j) (q : Φ (.dat (.int (i / j))) mu) : WR K (rI CDiv fun i j => .int (i / j)) (.dat (.int i)) (.dat (.int j)) ρ mu Φ := fun b H ad σ vx vy Q S hx hy k =>
  ⟨i, j, hx.int_inv, hy.int_inv, h, k _ _ H ad mu S (sv_d <| Rep.int _) q⟩
theorem wr_mod {i j : Int} (h : 0 < j) (q : Φ (.dat (.int (i % j))) mu) : WR K (rI (fun _ j => 0 < j) fun i j => .int (i % j)) (.dat (.int i)) (.dat (.int j)) ρ mu Φ := fun b H ad σ vx vy Q S hx hy k =>
  ⟨i, j, hx.int_inv, hy.int_inv, h, k _ _ H ad mu S (sv_d <| Rep.int _) q⟩
theorem wr_addS {i j : Str} (h : i.length + j.length ≤ 1000000) (q : Φ (.dat (.str (i ++ j))) mu) : WR K (fun x y H Q => ∃ i j, x = .str i ∧ y = .str j ∧ i.length + j.length ≤ sizeLine ∧ Q (.str (i ++ j)) H) (.dat (.str i)) (.dat (.str j)) ρ mu Φ := fun b H ad σ vx vy Q S hx hy k =>
  ⟨i, j, hx.str_inv, hy.str_inv, Nat.le_trans h (by decide), k _ _ H ad mu S (sv_d <| Rep.str _) q⟩
theorem wr_eqI {i j : Int} (q : Φ (.dat (.bl (decide (i = j)))) mu) : WR K rEq (.dat (.int i)) (.dat (.int j)) ρ mu Φ := fun b H ad σ vx vy Q S hx hy k => by
  rw [hx.int_inv, hy.int_inv]
  refine ⟨rfl, k _ _ H ad mu S (sv_d <| Rep.bl _) ?_⟩
  have e : decide (V.int i = V.int j) = decide (i = j) := decide_eq_decide.mpr ⟨fun h => V.int.inj h, fun h => by rw [h]⟩
  rw [e]; exact q
theorem wr_neI {i j : Int} (q : Φ (.dat (.bl (!decide (i = j)))) mu) : WR K rNe (.dat (.int i)) (.dat (.int j)) ρ mu Φ := fun b H ad σ vx vy Q S hx hy k => by
  rw [hx.int_inv, hy.int_inv]
  refine ⟨rfl, k _ _ H ad mu S (sv_d <| Rep.bl _) ?_⟩
  have e : decide (V.int i = V.int j) = decide (i = j) := decide_eq_decide.mpr ⟨fun h => V.int.inj h, fun h => by rw [h]⟩
  rw [e]; exact q
theorem wr_eqS {i j : Str} (q : Φ (.dat (.bl (decide (i = j)))) mu) : WR K rEq (.dat (.str i)) (.dat (.str j)) ρ mu Φ := fun b H ad σ vx vy Q S hx hy k => by
  rw [hx.str_inv, hy.str_inv]
  refine ⟨rfl, k _ _ H ad mu S (sv_d <| Rep.bl _) ?_⟩
  have e : decide (V.str i = V.str j) = decide (i = j) := decide_eq_decide.mpr ⟨fun h => V.str.inj h, fun h => by rw [h]⟩
  rw [e]; exact q
theorem wr_neS {i j : Str} (q : Φ (.dat (.bl (!decide (i = j)))) mu) : WR K rNe (.dat (.str i)) (.dat (.str j)) ρ mu Φ := fun b H ad σ vx vy Q S hx hy k => by
  rw [hx.str_inv, hy.str_inv]
  refine ⟨rfl, k _ _ H ad mu S (sv_d <| Rep.bl _) ?_⟩
  have e : decide (V.str i = V.str j) = decide (i = j) := decide_eq_decide.mpr ⟨fun h => V.str.inj h, fun h => by rw [h]⟩
  rw [e]; exact q
/-- None == an int -/
theorem wr_eqNI {j : Int} (q : Φ (.dat (.bl false)) mu) : WR K rEq (.dat .non) (.dat (.int j)) ρ mu Φ := fun b H ad σ vx vy Q S hx hy k => by
  rw [hx.non_inv, hy.int_inv]
  exact ⟨rfl, k _ _ H ad mu S (sv_d <| Rep.bl _) q⟩
def D.isNon : D → Bool
  | .non => true
  | _ => false
theorem rep_isNon {G : Hp} {v : V} : ∀ {d : D}, d.isNon = false → (∃ i, d = .int i) ∨ (∃ z, d = .str z) ∨ (∃ b, d = .bl b) ∨ (∃ l, d = .lst l) ∨ (∃ l, d = .tup l) → Rep K G v d → v ≠ .non := by
  intro d h hd r
  rcases hd with ⟨i, rfl⟩ | ⟨i, rfl⟩ | ⟨i, rfl⟩ | ⟨i, rfl⟩ | ⟨i, rfl⟩ <;> (cases r <;> intro z <;> cases z)
/-- x is None, x is not None: of what is None, of an int -/
theorem wr_isN0 (q : Φ (.dat (.bl true)) mu) : WR K (fun x y H Q => y = .non ∧ Q (.bl (decide (x = .non))) H) (.dat .non) (.dat .non) ρ mu Φ := fun b H ad σ vx vy Q S hx hy k => by
  rw [hx.non_inv, hy.non_inv]
  exact ⟨rfl, k _ _ H ad mu S (sv_d <| Rep.bl _) q⟩
theorem wr_isN1 {i : Int} (q : Φ (.dat (.bl false)) mu) : WR K (fun x y H Q => y = .non ∧ Q (.bl (decide (x = .non))) H) (.dat (.int i)) (.dat .non) ρ mu Φ := fun b H ad σ vx vy Q S hx hy k => by
  rw [hx.int_inv, hy.non_inv]
  exact ⟨rfl, k _ _ H ad mu S (sv_d <| Rep.bl _) q⟩
theorem wr_isNT {ds : List D} (q : Φ (.dat (.bl false)) mu) : WR K (fun x y H Q => y = .non ∧ Q (.bl (decide (x = .non))) H) (.dat (.tup ds)) (.dat .non) ρ mu Φ := fun b H ad σ vx vy Q S hx hy k => by
  obtain ⟨a, vs, rfl, _⟩ := hx.tup_inv
  rw [hy.non_inv]
  exact ⟨rfl, k _ _ H ad mu S (sv_d <| Rep.bl _) q⟩
theorem wr_notN0 (q : Φ (.dat (.bl false)) mu) : WR K (fun x y H Q => y = .non ∧ Q (.bl (!decide (x = .non))) H) (.dat .non) (.dat .non) ρ mu Φ := fun b H ad σ vx vy Q S hx hy k => by
  rw [hx.non_inv, hy.non_inv]
  exact ⟨rfl, k _ _ H ad mu S (sv_d <| Rep.bl _) q⟩
theorem wr_notN1 {i : Int} (q : Φ (.dat (.bl true)) mu) : WR K (fun x y H Q => y = .non ∧ Q (.bl (!decide (x = .non))) H) (.dat (.int i)) (.dat .non) ρ mu Φ := fun b H ad σ vx vy Q S hx hy k => by
  rw [hx.int_inv, hy.non_inv]
  exact ⟨rfl, k _ _ H ad mu S (sv_d <| Rep.bl _) q⟩

/-! ### subscripts -/
/-- a list that is read: data, or one that may change -/
def IsL (mu : List Ct) (x : SV) (ds : List D) : Prop := x = .dat (.lst ds) ∨ ∃ k, x = .ob k ∧ mu[k]? = some (.lst ds)
theorem isl_d {ds : List D} : IsL mu (.dat (.lst ds)) ds := .inl rfl
theorem isl_m {k : Nat} {ds : List D} (h : mu[k]? = some (.lst ds)) : IsL mu (.ob k) ds := .inr ⟨k, rfl, h⟩
theorem IsL.got {g : Bg} {H : Hp} {ad : List Addr} {σ : L2.St} {x : SV} {v : V} {ds : List D} (h : IsL mu x ds) (S : StOk K g H ad mu σ ρ) (hv : SvOk K (pub (Mx g.M ad) H) ad v x) :
    ∃ a vs, v = .ref a ∧ H a = some (.lst vs) ∧ RepL K (pub (Mx g.M ad) H) vs ds := by
  rcases h with rfl | ⟨k, rfl, hk⟩
  · obtain ⟨a, vs, e1, e2, e3⟩ := Rep.lst_inv hv
    exact ⟨a, vs, e1, pub_same _ _ e2, e3⟩
  · obtain ⟨a, ha, e1⟩ := hv
    obtain ⟨o, h1, vs, h2, h3⟩ := S.mu.ct k a _ ha hk
    subst h2
    exact ⟨a, vs, e1, h1, h3⟩
theorem at_get {α β : Type} {xs : List α} {ys : List β} {i : Int} {y : β} (hl : xs.length = ys.length) (h : atI ys i = some y) : ∃ j, ixN ys.length i = some j ∧ ys[j]? = some y ∧ atI xs i = xs[j]? := by
  unfold atI at h ⊢
  rw [hl]
  cases q : ixN ys.length i with
  | none => rw [q] at h; cases h
  | some j => rw [q] at h; exact ⟨j, rfl, h, rfl⟩
theorem RepL.at {G : Hp} {vs : List V} {ds : List D} {i : Int} {d : D} (r : RepL K G vs ds) (h : atI ds i = some d) : ∃ v, atI vs i = some v ∧ Rep K G v d := by
  obtain ⟨j, _, h2, h3⟩ := at_get r.length h
  obtain ⟨v, h4, h5⟩ := r.get h2
  exact ⟨v, h3.trans h4, h5⟩
theorem wr_ixL {x : SV} {ds : List D} {i : Int} {d : D} (hx : IsL mu x ds) (h : atI ds i = some d) (q : Φ (.dat d) mu) : WR K (rIxL K) x (.dat (.int i)) ρ mu Φ := fun b H ad σ vx vy Q S hvx hy k => by
  obtain ⟨a, vs, rfl, e2, r⟩ := hx.got S hvx
  obtain ⟨v, e3, e4⟩ := r.at h
  exact ⟨a, vs, i, v, rfl, hy.int_inv, SqL.of e2, e3, k _ _ H ad mu S (sv_d e4) q⟩
theorem wr_ixC {ns : List Int} {i : Int} {z : Int} (h : atI ns i = some z) (q : Φ (.dat (.int z)) mu) : WR K (rIxL K) (.dat (.scr ns)) (.dat (.int i)) ρ mu Φ := fun b H ad σ vx vy Q S hvx hy k => by
  obtain ⟨a, rfl, e2⟩ := Rep.scr_inv hvx
  obtain ⟨j, _, h2, h3⟩ := at_get (xs := ns.map V.int) (by simp) h
  exact ⟨a, _, i, .int z, rfl, hy.int_inv, pub_same.seq e2, h3.trans (by rw [List.getElem?_map, h2]; rfl), k _ _ H ad mu S (sv_d <| Rep.int z) q⟩
theorem wr_ixT {ds : List D} {i : Int} {d : D} (h : atI ds i = some d) (q : Φ (.dat d) mu) : WR K (rIxT K) (.dat (.tup ds)) (.dat (.int i)) ρ mu Φ := fun b H ad σ vx vy Q S hvx hy k => by
  obtain ⟨a, vs, rfl, e2, r⟩ := Rep.tup_inv hvx
  obtain ⟨v, e3, e4⟩ := r.at h
  exact ⟨a, vs, i, v, rfl, hy.int_inv, SqT.of (pub_same _ _ e2), e3, k _ _ H ad mu S (sv_d e4) q⟩
theorem wr_ixS {z : Str} {i : Int} {c : Nat} (hl : z.length ≤ 1000000) (h : atI z.cps.toList i = some c) (q : Φ (.dat (.str ⟨#[c]⟩)) mu) : WR K rIxS (.dat (.str z)) (.dat (.int i)) ρ mu Φ := fun b H ad σ vx vy Q S hvx hy k =>
  ⟨z, i, c, hvx.str_inv, hy.int_inv, Nat.le_trans hl (by decide), h, k _ _ H ad mu S (sv_d <| Rep.str _) q⟩
/-- an item at a natural place -/
theorem at_n {α : Type} {xs : List α} {i : Int} {d : α} (h0 : 0 ≤ i) (h : xs[i.toNat]? = some d) : atI xs i = some d := by
  obtain ⟨j, rfl⟩ : ∃ j : Nat, i = (j : Int) := ⟨i.toNat, by omega⟩
  exact atI_nat (by simpa using h)

/-! ### displays -/
theorem wa_nil {Ψ : List SV → List Ct → Prop} (q : Ψ [] mu) : WA K tNil ρ mu Ψ := fun g H ad σ Q S k => k [] [] H ad mu S .nil q
theorem wa_cons {Ψ : List SV → List Ct → Prop} (h : WE K ta ρ mu fun x mu1 => WA K t ρ mu1 fun ss mu2 => Ψ (x :: ss) mu2) : WA K (tCons ta t) ρ mu Ψ := fun g H ad σ Q S k =>
  h g H ad σ _ S fun x sx H1 ad1 mu1 S1 hx h1 =>
    h1 (g.here H1 ad1) H1 ad1 σ _ S1.here fun vs ss H2 ad2 mu2 S2 hs h2 =>
      k _ _ H2 ad2 mu2 (S1.back S2) (.cons (hx.keep S2) hs) h2
theorem we_tup (h : WA K t ρ mu fun ss mu' => ss.length ≤ 1000 ∧ Φ (.dat (.tup (ss.map SV.toD))) mu') : WE K (tTup t) ρ mu Φ := fun g H ad σ Q S k =>
  h g H ad σ _ S fun vs ss H1 ad1 mu1 S1 hs h1 => ⟨by rw [hs.length]; exact Nat.le_trans h1.1 (by decide), fun p hp => by
    obtain ⟨S2, e2, s2⟩ := S1.alloc (o := .tup vs) hp
    exact k _ _ _ ad1 mu1 S2 (sv_d <| Rep.tup (by rw [e2]; exact upd_same) (hs.toDs.mono s2)) h1.2⟩
theorem we_lst (h : WA K t ρ mu fun ss mu' => ss.length ≤ 1000 ∧ Φ (.dat (.lst (ss.map SV.toD))) mu') : WE K (tLst t) ρ mu Φ := fun g H ad σ Q S k =>
  h g H ad σ _ S fun vs ss H1 ad1 mu1 S1 hs h1 => ⟨by rw [hs.length]; exact Nat.le_trans h1.1 (by decide), fun p hp => by
    obtain ⟨S2, e2, s2⟩ := S1.alloc (o := .lst vs) hp
    exact k _ _ _ ad1 mu1 S2 (sv_d <| Rep.lst (by rw [e2]; exact upd_same) (hs.toDs.mono s2)) h1.2⟩
/-- a new list that will change -/
theorem we_lstM (h : WA K t ρ mu fun ss mu' => ss.length ≤ 1000 ∧ Φ (.ob mu'.length) (mu' ++ [.lst (ss.map SV.toD)])) : WE K (tLst t) ρ mu Φ := fun g H ad σ Q S k =>
  h g H ad σ _ S fun vs ss H1 ad1 mu1 S1 hs h1 => ⟨by rw [hs.length]; exact Nat.le_trans h1.1 (by decide), fun p hp => by
    obtain ⟨S2, e2⟩ := S1.allocM (o := .lst vs) (c := .lst (ss.map SV.toD)) hp ⟨vs, rfl, hs.toDs⟩
    exact k _ _ _ _ _ S2 (sv_new S1.mu.len) h1.2⟩
theorem we_dnewK (q : Φ (.ob mu.length) (mu ++ [.dK (fun _ => none) 0])) : WE K tDNewK ρ mu Φ := fun g H ad σ Q S k p hp => by
  obtain ⟨S2, e2⟩ := S.allocM (o := .dK []) (c := .dK (fun _ => none) 0) hp ⟨[], rfl, Nat.le_refl _, fun k => ⟨fun _ => rfl, fun _ => rfl⟩, fun k v d h => by cases h⟩
  exact k _ _ _ _ _ S2 (sv_new S.mu.len) q
theorem we_dnewT (q : Φ (.ob mu.length) (mu ++ [.dT (fun _ => false) 0])) : WE K tDNewT ρ mu Φ := fun g H ad σ Q S k p hp => by
  obtain ⟨S2, e2⟩ := S.allocM (o := .dT []) (c := .dT (fun _ => false) 0) hp ⟨[], rfl, Nat.le_refl _, fun k => rfl⟩
  exact k _ _ _ _ _ S2 (sv_new S.mu.len) q
/-- xs + ys, of two lists -/
theorem wr_cat {x y : SV} {ds es : List D} (hx : IsL mu x ds) (hy : IsL mu y es) (hl : ds.length + es.length ≤ 1000000) (q : Φ (.dat (.lst (ds ++ es))) mu) : WR K rCat x y ρ mu Φ := fun b H ad σ vx vy Q S hvx hvy k => by
  obtain ⟨a, vs, rfl, e2, r⟩ := hx.got S hvx
  obtain ⟨a', ws, rfl, e3, r'⟩ := hy.got S hvy
  refine ⟨a, a', vs, ws, rfl, rfl, e2, e3, by rw [r.length, r'.length]; exact Nat.le_trans hl (by decide), fun p hp => ?_⟩
  obtain ⟨S2, e4, s2⟩ := S.alloc (o := .lst (vs ++ ws)) hp
  exact k _ _ _ ad mu S2 (sv_d <| Rep.lst (by rw [e4]; exact upd_same) ((r.append r').mono s2)) q
theorem wr_catM {x y : SV} {ds es : List D} (hx : IsL mu x ds) (hy : IsL mu y es) (hl : ds.length + es.length ≤ 1000000) (q : Φ (.ob mu.length) (mu ++ [.lst (ds ++ es)])) : WR K rCat x y ρ mu Φ := fun b H ad σ vx vy Q S hvx hvy k => by
  obtain ⟨a, vs, rfl, e2, r⟩ := hx.got S hvx
  obtain ⟨a', ws, rfl, e3, r'⟩ := hy.got S hvy
  refine ⟨a, a', vs, ws, rfl, rfl, e2, e3, by rw [r.length, r'.length]; exact Nat.le_trans hl (by decide), fun p hp => ?_⟩
  obtain ⟨S2, e4⟩ := S.allocM (o := .lst (vs ++ ws)) (c := .lst (ds ++ es)) hp ⟨_, rfl, r.append r'⟩
  exact k _ _ _ _ _ S2 (sv_new S.mu.len) q
/-- [d] * n -/
theorem flat_rep {α : Type} (x : α) : ∀ n : Nat, (List.replicate n [x]).flatten = List.replicate n x
  | 0 => rfl
  | n + 1 => by rw [List.replicate_succ, List.flatten_cons, flat_rep x n, List.replicate_succ]; rfl
theorem one_inv {G : Hp} {vs : List V} {d : D} (r : RepL K G vs [d]) : ∃ v, vs = [v] ∧ Rep K G v d := by
  cases r with
  | cons h r => cases r; exact ⟨_, rfl, h⟩
theorem wr_rep {x : SV} {d : D} {n : Nat} (hx : IsL mu x [d]) (hn : n ≤ 1000000) (q : Φ (.dat (.lst (List.replicate n d))) mu) : WR K rRep x (.dat (.int (n : Int))) ρ mu Φ := fun b H ad σ vx vy Q S hvx hvy k => by
  obtain ⟨a, vs, rfl, e2, r⟩ := hx.got S hvx
  obtain ⟨v, rfl, h⟩ := one_inv r
  refine ⟨a, (n : Int), [v], rfl, hvy.int_inv, e2, by omega, by omega, ?_, fun p hp => ?_⟩
  · rw [List.length_singleton, Nat.one_mul, Int.toNat_natCast]; exact Nat.le_trans hn (by decide)
  · rw [Int.toNat_natCast, flat_rep]
    obtain ⟨S2, e4, s2⟩ := S.alloc (o := .lst (List.replicate n v)) hp
    exact k _ _ _ ad mu S2 (sv_d <| Rep.lst (by rw [e4]; exact upd_same) ((RepL.rep h n).mono s2)) q
theorem wr_repM {x : SV} {d : D} {n : Nat} (hx : IsL mu x [d]) (hn : n ≤ 1000000) (q : Φ (.ob mu.length) (mu ++ [.lst (List.replicate n d)])) : WR K rRep x (.dat (.int (n : Int))) ρ mu Φ := fun b H ad σ vx vy Q S hvx hvy k => by
  obtain ⟨a, vs, rfl, e2, r⟩ := hx.got S hvx
  obtain ⟨v, rfl, h⟩ := one_inv r
  refine ⟨a, (n : Int), [v], rfl, hvy.int_inv, e2, by omega, by omega, ?_, fun p hp => ?_⟩
  · rw [List.length_singleton, Nat.one_mul, Int.toNat_natCast]; exact Nat.le_trans hn (by decide)
  · rw [Int.toNat_natCast, flat_rep]
    obtain ⟨S2, e4⟩ := S.allocM (o := .lst (List.replicate n v)) (c := .lst (List.replicate n d)) hp ⟨_, rfl, RepL.rep h n⟩
    exact k _ _ _ _ _ S2 (sv_new S.mu.len) q
/-- xs[lo:hi] -/
def WO (K : PySem.W.Frag) (to : TO) (ρ : Rho) (mu : List Ct) (Φ : Option Int → List Ct → Prop) : Prop := ∀ (g : Bg) (H : Hp) (ad : List Addr) (σ : L2.St) (Q : Option Int → Hp → Prop), StOk K g H ad mu σ ρ →
  (∀ o H' ad' mu', StOk K g H' ad' mu' σ ρ → Φ o mu' → Q o H') → to σ H Q
theorem wo_none {Ψ : Option Int → List Ct → Prop} (q : Ψ none mu) : WO K tNoPart ρ mu Ψ := fun g H ad σ Q S k => k none H ad mu S q
theorem wo_some {Ψ : Option Int → List Ct → Prop} (h : WE K te ρ mu fun s mu1 => ∃ i, s = .dat (.int i) ∧ Ψ (some i) mu1) : WO K (tPart te) ρ mu Ψ := fun g H ad σ Q S k =>
  h g H ad σ _ S fun v s H1 ad1 mu1 S1 hv ⟨i, e, h1⟩ => by
    subst e
    exact ⟨i, hv.int_inv, k _ H1 ad1 mu1 S1 h1⟩
def cutD (ds : List D) (lo hi : Option Int) : List D := (ds.drop (HT.sIx ds.length 0 lo)).take (HT.sIx ds.length ds.length hi - HT.sIx ds.length 0 lo)
theorem RepL.cut {G : Hp} {vs : List V} {ds : List D} (r : RepL K G vs ds) (lo hi : Option Int) : RepL K G (cutV vs lo hi) (cutD ds lo hi) := by
  unfold cutV cutD
  rw [r.length]
  exact (r.drop _).take _
theorem we_slice {tl th : TO} (h : WE K te ρ mu fun x mu1 => WO K tl ρ mu1 fun lo mu2 => WO K th ρ mu2 fun hi mu3 => ∃ ds, IsL mu3 x ds ∧ Φ (.dat (.lst (cutD ds lo hi))) mu3) : WE K (tSl (rSlL K) te tl th) ρ mu Φ := fun g H ad σ Q S k =>
  h g H ad σ _ S fun v s H1 ad1 mu1 S1 hv h1 =>
    h1 (g.here H1 ad1) H1 ad1 σ _ S1.here fun lo H2 ad2 mu2 S2 h2 =>
      h2 (g.here H1 ad1) H2 ad2 σ _ S2 fun hi H3 ad3 mu3 S3 h3 => by
        obtain ⟨ds, hx, q⟩ := h3
        obtain ⟨a, vs, e, e2, r⟩ := hx.got (S1.back S3) (hv.keep S3)
        refine ⟨a, vs, e, SqL.of e2, fun p hp => ?_⟩
        obtain ⟨S4, e4, s2⟩ := (S1.back S3).alloc (o := .lst (cutV vs lo hi)) hp
        exact k _ _ _ ad3 mu3 S4 (sv_d <| Rep.lst (by rw [e4]; exact upd_same) ((r.cut lo hi).mono s2)) q

/-! ### tests -/
variable {Ψ : Bool → List Ct → Prop} {tt tu : TT}
theorem wt_test (h : WE K te ρ mu fun s mu' => ∃ b, s = .dat (.bl b) ∧ Ψ b mu') : WT K (tTest te) ρ mu Ψ := fun g H ad σ Q S k =>
  h g H ad σ _ S fun v s H1 ad1 mu1 S1 hv ⟨b, e, h1⟩ => by subst e; exact ⟨b, hv.bl_inv, k b H1 ad1 mu1 S1 h1⟩
theorem wt_B (h : WE K te ρ mu fun s mu' => ∃ b, s = .dat (.bl b) ∧ Ψ b mu') : WT K (tB te) ρ mu Ψ := fun g H ad σ Q S k =>
  h g H ad σ _ S fun v s H1 ad1 mu1 S1 hv ⟨b, e, h1⟩ => by subst e; exact ⟨b, hv.bl_inv, k b H1 ad1 mu1 S1 h1⟩
theorem wt_and (h : WT K tt ρ mu fun b mu1 => (b = true → WT K tu ρ mu1 Ψ) ∧ (b = false → Ψ false mu1)) : WT K (tAnd tt tu) ρ mu Ψ := fun g H ad σ Q S k =>
  h g H ad σ _ S fun b H1 ad1 mu1 S1 h1 => by
    cases b with
    | true => exact h1.1 rfl g H1 ad1 σ Q S1 k
    | false => exact k false H1 ad1 mu1 S1 (h1.2 rfl)
theorem wt_or (h : WT K tt ρ mu fun b mu1 => (b = true → Ψ true mu1) ∧ (b = false → WT K tu ρ mu1 Ψ)) : WT K (tOr tt tu) ρ mu Ψ := fun g H ad σ Q S k =>
  h g H ad σ _ S fun b H1 ad1 mu1 S1 h1 => by
    cases b with
    | false => exact h1.2 rfl g H1 ad1 σ Q S1 k
    | true => exact k true H1 ad1 mu1 S1 (h1.1 rfl)
theorem wt_not (h : WT K tt ρ mu fun b mu1 => Ψ (!b) mu1) : WT K (tNot tt) ρ mu Ψ := fun g H ad σ Q S k =>
  h g H ad σ _ S fun b H1 ad1 mu1 S1 h1 => k _ H1 ad1 mu1 S1 h1
theorem wt_yes (h : Ψ true mu) : WT K tYes ρ mu Ψ := fun g H ad σ Q S k => k true H ad mu S h
theorem we_andV (h : WE K ta ρ mu fun s mu1 => ∃ b, s = .dat (.bl b) ∧ (b = true → WE K tb ρ mu1 Φ) ∧ (b = false → Φ (.dat (.bl false)) mu1)) : WE K (tAndV ta tb) ρ mu Φ := fun g H ad σ Q S k =>
  h g H ad σ _ S fun v s H1 ad1 mu1 S1 hv ⟨b, e, h1⟩ => by
    subst e
    refine ⟨b, hv.bl_inv, ?_⟩
    cases b with
    | true => exact h1.1 rfl g H1 ad1 σ Q S1 k
    | false => exact k _ _ H1 ad1 mu1 S1 (sv_d <| Rep.bl false) (h1.2 rfl)
theorem we_orV (h : WE K ta ρ mu fun s mu1 => ∃ b, s = .dat (.bl b) ∧ (b = true → Φ (.dat (.bl true)) mu1) ∧ (b = false → WE K tb ρ mu1 Φ)) : WE K (tOrV ta tb) ρ mu Φ := fun g H ad σ Q S k =>
  h g H ad σ _ S fun v s H1 ad1 mu1 S1 hv ⟨b, e, h1⟩ => by
    subst e
    refine ⟨b, hv.bl_inv, ?_⟩
    cases b with
    | false => exact h1.2 rfl g H1 ad1 σ Q S1 k
    | true => exact k _ _ H1 ad1 mu1 S1 (sv_d <| Rep.bl true) (h1.1 rfl)
theorem we_notV (h : WE K ta ρ mu fun s mu1 => ∃ b, s = .dat (.bl b) ∧ Φ (.dat (.bl (!b))) mu1) : WE K (tNotV ta) ρ mu Φ := fun g H ad σ Q S k =>
  h g H ad σ _ S fun v s H1 ad1 mu1 S1 hv ⟨b, e, h1⟩ => by
    subst e
    exact ⟨b, hv.bl_inv, k _ _ H1 ad1 mu1 S1 (sv_d <| Rep.bl _) h1⟩
theorem we_un {f : Int → Int} (h : WE K te ρ mu fun s mu1 => ∃ i, s = .dat (.int i) ∧ Φ (.dat (.int (f i))) mu1) : WE K (tUn (rU fun i => .int (f i)) te) ρ mu Φ := fun g H ad σ Q S k =>
  h g H ad σ _ S fun v s H1 ad1 mu1 S1 hv ⟨i, e, h1⟩ => by
    subst e
    exact ⟨i, hv.int_inv, k _ _ H1 ad1 mu1 S1 (sv_d <| Rep.int _) h1⟩
end
end LP
end

section
set_option maxHeartbeats 2000000
/-! LpC: targets, statements, what is walked, loops, comprehensions. -/
namespace LP
open PySem PySem.Spec PyProof.Rows L2

section
variable {K : PySem.W.Frag} {ρ : Rho} {mu : List Ct} {Φ : SV → List Ct → Prop} {ta tb te tl to ti : TE} {t : TA} {Ψ : Rho → List Ct → Prop}

/-! ### targets -/
theorem wg_name {i : Nat} {s : SV} (q : Ψ (ρ.set i (some s)) mu) : WG K (gName i) s ρ mu Ψ := fun g H ad σ v Q S hv k => k _ _ H ad mu (S.put i hv) q
theorem wgs_nil (q : Ψ ρ mu) : WGs K gNil [] ρ mu Ψ := fun g H ad σ vs Q S hv k => by
  cases hv
  exact ⟨rfl, k _ _ H ad mu S q⟩
theorem wgs_cons {tg : TG} {tr : TGs} {s : SV} {ss : List SV} (h : WG K tg s ρ mu fun ρ1 mu1 => WGs K tr ss ρ1 mu1 Ψ) : WGs K (gCons tg tr) (s :: ss) ρ mu Ψ := fun g H ad σ vs Q S hv k => by
  cases hv with
  | cons h1 h2 =>
    refine ⟨_, _, rfl, h (g.here H ad) H ad σ _ _ S.here h1 fun σ1 ρ1 H1 ad1 mu1 S1 q1 => ?_⟩
    exact q1 g H1 ad1 σ1 _ Q (S.back S1) (h2.keep S1) k
theorem wg_tup {n : Nat} {tr : TGs} {ds : List D} (hn : ds.length = n) (h : WGs K tr (ds.map SV.dat) ρ mu Ψ) : WG K (gTup K n tr) (.dat (.tup ds)) ρ mu Ψ := fun g H ad σ v Q S hv k => by
  obtain ⟨a, vs, e1, e2, r⟩ := Rep.tup_inv hv
  exact ⟨a, vs, e1, SqT.of (pub_same _ _ e2), by rw [r.length]; exact hn, h g H ad σ vs Q S (SvsOk.of_dats r) k⟩
theorem wg_unl {n : Nat} {tr : TGs} {ds : List D} (hn : ds.length = n) (h : WGs K tr (ds.map SV.dat) ρ mu Ψ) : WG K (gUnl K n tr) (.dat (.lst ds)) ρ mu Ψ := fun g H ad σ v Q S hv k => by
  obtain ⟨a, vs, e1, e2, r⟩ := Rep.lst_inv hv
  exact ⟨a, vs, e1, SqL.of (pub_same _ _ e2), by rw [r.length]; exact hn, h g H ad σ vs Q S (SvsOk.of_dats r) k⟩
theorem wg_sub {s : SV} (h : WE K to ρ mu fun o mu1 => WE K ti ρ mu1 fun i mu2 => ∃ m ds j n, o = .ob m ∧ mu2[m]? = some (.lst ds) ∧ i = .dat (.int j) ∧ ixN ds.length j = some n ∧ Ψ ρ (mu2.set m (.lst (ds.set n s.toD)))) :
    WG K (gSub to ti rSetL) s ρ mu Ψ := fun g H ad σ v Q S hv k =>
  h (g.here H ad) H ad σ _ S.here fun vo so H1 ad1 mu1 S1 ho h1 =>
    h1 (g.here H1 ad1) H1 ad1 σ _ (S.back S1).here fun vi si H2 ad2 mu2 S2 hi h2 => by
      obtain ⟨m, ds, j, n, rfl, hm, rfl, hn, q⟩ := h2
      have S3 := (S.back S1).back S2
      obtain ⟨a, ha, e1⟩ := (show SvOk K (pub (Mx g.M ad2) H2) ad2 vo (.ob m) from ho.keep S2)
      obtain ⟨o, h3, vs, e3, r⟩ := S3.mu.ct m a _ ha hm
      subst e3
      have hv2 : SvOk K (pub (Mx g.M ad2) H2) ad2 v s := (hv.keep S1).keep S2
      obtain ⟨S4, e4⟩ := S3.change (o := .lst (vs.set n v)) (c := .lst (ds.set n s.toD)) ha ⟨_, rfl, r.set n hv2.toD⟩
      exact ⟨a, vs, j, n, e1, hi.int_inv, h3, by rw [r.length]; exact hn, k _ _ _ _ _ S4 q⟩

/-! ### statements -/
variable {n : Nat} {E : En} {ts tu : TS} {tt : TT}
theorem ws_seq (h : WS K n ts ρ mu { E with nx := fun ρ1 mu1 => WS K n tu ρ1 mu1 E }) : WS K n (tSeq ts tu) ρ mu E := fun g H ad σ D hn S k1 k2 k3 k4 =>
  h g H ad σ { D with nx := tu D } hn S (fun σ1 ρ1 H1 ad1 mu1 S1 q => q g H1 ad1 σ1 D hn S1 k1 k2 k3 k4) k2 k3 k4
theorem ws_next (q : E.nx ρ mu) : WS K n tNext ρ mu E := fun g H ad σ D hn S k1 k2 k3 k4 => k1 _ _ _ _ _ S q
theorem ws_brk (q : E.bk ρ mu) : WS K n tBreak ρ mu E := fun g H ad σ D hn S k1 k2 k3 k4 => k3 _ _ _ _ _ S q
theorem ws_asg {tg : TG} (h : WE K te ρ mu fun s mu1 => WG K tg s ρ mu1 E.nx) : WS K n (tAsg te tg) ρ mu E := fun g H ad σ D hn S k1 k2 k3 k4 =>
  h g H ad σ _ S fun v s H1 ad1 mu1 S1 hv h1 => h1 g H1 ad1 σ v _ S1 hv k1
theorem ws_set {i : Nat} (h : WE K te ρ mu fun s mu1 => E.nx (ρ.set i (some s)) mu1) : WS K n (tAsg te (gName i)) ρ mu E := ws_asg (we_mono h fun s m q => wg_name q)
theorem ws_drop (h : WE K te ρ mu fun _ mu1 => E.nx ρ mu1) : WS K n (tDrop te) ρ mu E := fun g H ad σ D hn S k1 k2 k3 k4 =>
  h g H ad σ _ S fun v s H1 ad1 mu1 S1 hv h1 => k1 _ _ _ _ _ S1 h1
theorem ws_if (h : WT K tt ρ mu fun b mu1 => (b = true → WS K n ts ρ mu1 E) ∧ (b = false → WS K n tu ρ mu1 E)) : WS K n (tIfS tt ts tu) ρ mu E := fun g H ad σ D hn S k1 k2 k3 k4 =>
  h g H ad σ _ S fun b H1 ad1 mu1 S1 h1 => by
    cases b with
    | true => exact h1.1 rfl g H1 ad1 σ D hn S1 k1 k2 k3 k4
    | false => exact h1.2 rfl g H1 ad1 σ D hn S1 k1 k2 k3 k4
theorem ws_aug {i : Nat} {f : Int → Int → Int} {a : Int} (h0 : ρ[i]? = some (some (.dat (.int a)))) (h : WE K te ρ mu fun s mu1 => ∃ b, s = .dat (.int b) ∧ E.nx (ρ.set i (some (.dat (.int (f a b))))) mu1) : WS K n (tAug i te (ipI f)) ρ mu E := fun g H ad σ D hn S k1 k2 k3 k4 => by
  obtain ⟨v, h1, h2⟩ := S.sl i _ h0
  refine ⟨v, h1, h g H ad σ _ S fun v2 s H1 ad1 mu1 S1 hv ⟨b, e, q⟩ => ?_⟩
  subst e
  exact ⟨a, b, Rep.int_inv h2, hv.int_inv, k1 _ _ _ _ _ (S1.put i (v := .int (f a b)) (s := .dat (.int (f a b))) (Rep.int _)) q⟩
/-- what a return gives: the first n changing things, the value as data or as a new thing that may change -/
def RetTo (n : Nat) (s : SV) (mu : List Ct) (Rt : SV → List Ct → Prop) : Prop :=
  match s with
  | .dat d => Rt (.dat d) (mu.take n)
  | .ob i => ∃ ds, n ≤ i ∧ mu[i]? = some (.lst ds) ∧ (Rt (.dat (.lst ds)) (mu.take n) ∨ (Rt (.ob n) (mu.take n ++ [.lst ds]) ∧ n ≤ mu.length))
theorem ret_d {d : D} {Rt : SV → List Ct → Prop} (q : Rt (.dat d) (mu.take n)) : RetTo n (.dat d) mu Rt := q
theorem ret_m {i : Nat} {ds : List D} {Rt : SV → List Ct → Prop} (h1 : n ≤ i) (h2 : mu[i]? = some (.lst ds)) (q : Rt (.dat (.lst ds)) (mu.take n)) : RetTo n (.ob i) mu Rt := ⟨ds, h1, h2, .inl q⟩
theorem ret_o {i : Nat} {ds : List D} {Rt : SV → List Ct → Prop} (h1 : n ≤ i) (h2 : mu[i]? = some (.lst ds)) (q : Rt (.ob n) (mu.take n ++ [.lst ds])) : RetTo n (.ob i) mu Rt :=
  ⟨ds, h1, h2, .inr ⟨q, by have := (List.getElem?_eq_some_iff.mp h2).1; omega⟩⟩
theorem MuOk.cut {M : Addr → Bool} {H : Hp} {ad : List Addr} (X : MuOk K M H ad mu) (l : List Nat) (hl : ∀ i ∈ l, i < ad.length) (hd : l.Nodup) : MuOk K M H (l.map fun i => ad.getD i 0) (l.map fun i => mu.getD i (.lst [])) ∧ Same (pub (Mx M ad) H) (pub (Mx M (l.map fun i => ad.getD i 0)) H) := by
  have hs : Same (pub (Mx M ad) H) (pub (Mx M (l.map fun i => ad.getD i 0)) H) := pub_up fun b hb => by
    rcases mx_of.mp hb with h | h
    · exact mx_of.mpr (.inl h)
    · obtain ⟨i, hi, e⟩ := List.mem_map.mp h
      refine mx_of.mpr (.inr ?_)
      rw [← e, List.getD_eq_getElem?_getD, List.getElem?_eq_getElem (hl i hi)]
      exact List.getElem_mem _
  have gi : ∀ i, i < ad.length → ad[i]? = some (ad.getD i 0) := fun i hi => by
    rw [List.getD_eq_getElem?_getD, List.getElem?_eq_getElem hi]; rfl
  have gm : ∀ i, i < ad.length → mu[i]? = some (mu.getD i (.lst [])) := fun i hi => by
    rw [List.getD_eq_getElem?_getD, List.getElem?_eq_getElem (by rw [← X.len]; exact hi)]; rfl
  refine ⟨⟨X.fin, ?_, fun a ha => ?_, by simp, fun i a c h1 h2 => ?_⟩, hs⟩
  · refine List.pairwise_map.mpr (hd.imp_of_mem fun {i j} hi hj hne => ?_)
    intro e
    exact hne ((List.getElem?_inj (hl i hi) X.nd).mp ((gi i (hl i hi)).trans (e ▸ (gi j (hl j hj)).symm)))
  · obtain ⟨i, hi, e⟩ := List.mem_map.mp ha
    exact X.out a (e ▸ List.mem_of_getElem? (gi i (hl i hi)))
  · rw [List.getElem?_map] at h1 h2
    cases e : l[i]? with
    | none => rw [e] at h1; cases h1
    | some j =>
      rw [e] at h1 h2
      cases h1; cases h2
      have hj := hl j (List.mem_of_getElem? e)
      obtain ⟨o, h3, h4⟩ := X.ct j _ _ (gi j hj) (gm j hj)
      exact ⟨o, h3, h4.mono hs⟩
theorem map_range_take {α : Type} (l : List α) (d : α) : ∀ n, n ≤ l.length → (List.range n).map (fun i => l.getD i d) = l.take n
  | 0, _ => rfl
  | n + 1, h => by
    rw [List.range_succ, List.map_append, map_range_take l d n (by omega), List.take_add_one, List.map_singleton, List.getD_eq_getElem?_getD]
    rw [List.getElem?_eq_getElem (show n < l.length by omega)]
    rfl
theorem StOk.len_n {g : Bg} {H : Hp} {ad : List Addr} {σ : L2.St} (S : StOk K g H ad mu σ ρ) : g.ab.length ≤ ad.length := by
  have := congrArg List.length S.pre
  rw [List.length_take] at this
  omega
theorem ws_ret (h : WE K te ρ mu fun s mu1 => RetTo n s mu1 E.rt) : WS K n (tRet te) ρ mu E := fun g H ad σ D hn S k1 k2 k3 k4 =>
  h g H ad σ _ S fun v s H1 ad1 mu1 S1 hv h1 => by
    have hl : n ≤ ad1.length := by rw [← hn]; exact S1.len_n
    have hpre : ad1.take n = g.ab := by rw [← hn]; exact S1.pre
    obtain ⟨X, hs⟩ := S1.mu.cut (List.range n) (fun i hi => by have := List.mem_range.mp hi; omega) List.nodup_range
    rw [map_range_take ad1 0 n hl, map_range_take mu1 (.lst []) n (by rw [← S1.mu.len]; exact hl)] at X
    rw [map_range_take ad1 0 n hl] at hs
    cases s with
    | dat d =>
      refine k2 v (.dat d) H1 (ad1.take n) (mu1.take n) ⟨by rw [hpre]; exact List.take_length, X, S1.prot, S1.base.trans hs, Rep.mono hs hv⟩ h1
    | ob i =>
      obtain ⟨ds, hi, hm, q⟩ := h1
      obtain ⟨a, ha, e1⟩ := hv
      obtain ⟨o, h3, vs, e3, r⟩ := S1.mu.ct i a _ ha hm
      subst e3; subst e1
      rcases q with q | ⟨q, _⟩
      · refine k2 (.ref a) (.dat (.lst ds)) H1 (ad1.take n) (mu1.take n) ⟨by rw [hpre]; exact List.take_length, X, S1.prot, S1.base.trans hs, Rep.lst ?_ (r.mono hs)⟩ q
        rw [pub_of]
        · exact h3
        · cases z : Mx g.M (ad1.take n) a with
          | false => rfl
          | true =>
            rcases mx_of.mp z with z | z
            · have := S1.mu.out a (List.mem_of_getElem? ha)
              rw [z] at this; cases this
            · obtain ⟨j, hj⟩ := List.getElem?_of_mem z
              have hjn : j < n := by
                have := (List.getElem?_eq_some_iff.mp hj).1
                rw [List.length_take] at this; omega
              rw [List.getElem?_take_of_lt hjn] at hj
              have hlt : i < ad1.length := (List.getElem?_eq_some_iff.mp ha).1
              have := (List.getElem?_inj hlt S1.mu.nd).mp (ha.trans hj.symm)
              omega
      · obtain ⟨X2, hs2⟩ := S1.mu.cut (List.range n ++ [i]) (fun j hj => by
          rcases List.mem_append.mp hj with h | h
          · have := List.mem_range.mp h; omega
          · rw [List.mem_singleton] at h; rw [h]; exact (List.getElem?_eq_some_iff.mp ha).1) (by
          rw [List.nodup_append]
          refine ⟨List.nodup_range, by simp, fun x hx y hy z => ?_⟩
          rw [List.mem_singleton] at hy
          have := List.mem_range.mp hx
          omega)
        have ga : ad1.getD i 0 = a := by rw [List.getD_eq_getElem?_getD, ha]; rfl
        have gm : mu1.getD i (.lst []) = .lst ds := by rw [List.getD_eq_getElem?_getD, hm]; rfl
        rw [List.map_append, List.map_append, map_range_take ad1 0 n hl, map_range_take mu1 (.lst []) n (by rw [← S1.mu.len]; exact hl), List.map_singleton, List.map_singleton, ga, gm] at X2
        rw [List.map_append, map_range_take ad1 0 n hl, List.map_singleton, ga] at hs2
        have hln : (ad1.take n).length = n := by rw [List.length_take]; omega
        refine k2 (.ref a) (.ob n) H1 (ad1.take n ++ [a]) (mu1.take n ++ [.lst ds]) ⟨?_, X2, S1.prot, S1.base.trans hs2, a, ?_, rfl⟩ q
        · rw [hpre, List.take_append_of_le_length (Nat.le_refl _), List.take_length]
        · rw [List.getElem?_append_right (by rw [hln]; exact Nat.le_refl _), hln, Nat.sub_self]; rfl
theorem StOk.then_ret {g : Bg} {H H' : Hp} {ad ad' : List Addr} {σ : L2.St} {v : V} {s : SV} {mu' : List Ct} (S : StOk K g H ad mu σ ρ) (R : RetOk K (g.now H ad) H' v s mu' ad') : RetOk K g H' v s mu' ad' :=
  ⟨R.pre, R.mu, R.prot, S.base.trans R.base, R.val⟩
/-- the last changing thing, a list, stands from here on as it is -/
def thaw (k : Nat) (d : D) : Rho → Rho := List.map fun
  | some (.ob i) => if i = k then some (.dat d) else some (.ob i)
  | x => x
theorem ws_freeze {mu1 : List Ct} {ds : List D} (he : mu = mu1 ++ [.lst ds]) (hn : n ≤ mu1.length) (h : WS K n ts (thaw mu1.length (.lst ds) ρ) mu1 E) : WS K n ts ρ mu E := fun g H ad σ D hg S k1 k2 k3 k4 => by
  subst he
  have hl : ad.length = mu1.length + 1 := by rw [S.mu.len, List.length_append, List.length_singleton]
  obtain ⟨X, hs⟩ := S.mu.cut (List.range mu1.length) (fun i hi => by have := List.mem_range.mp hi; omega) List.nodup_range
  rw [map_range_take ad 0 _ (by omega), map_range_take (mu1 ++ [Ct.lst ds]) (Ct.lst []) mu1.length (by simp), List.take_left] at X
  rw [map_range_take ad 0 _ (by omega)] at hs
  refine h g H (ad.take mu1.length) σ D hg ⟨X, S.prot, ?_, S.base.trans hs, ?_, fun i s e => ?_⟩ k1 k2 k3 k4
  · rw [List.take_take, Nat.min_eq_left (by omega)]; exact S.pre
  · unfold thaw; rw [List.length_map]; exact S.ln
  · unfold thaw at e
    rw [List.getElem?_map] at e
    cases q : ρ[i]? with
    | none => rw [q] at e; cases e
    | some x =>
      rw [q] at e
      cases x with
      | none => cases e
      | some y =>
        obtain ⟨v, h1, h2⟩ := S.sl i y q
        refine ⟨v, h1, ?_⟩
        cases y with
        | dat d => cases e; exact Rep.mono hs h2
        | ob j =>
          obtain ⟨a, ha, e1⟩ := h2
          by_cases hj : j = mu1.length
          · simp [hj] at e
            subst e
            obtain ⟨o, h3, vs, e3, r⟩ := S.mu.ct j a (.lst ds) ha (by rw [hj, List.getElem?_append_right (Nat.le_refl _), Nat.sub_self]; rfl)
            subst e3; subst e1
            refine Rep.lst ?_ (r.mono hs)
            rw [pub_of]
            · exact h3
            · cases z : Mx g.M (ad.take mu1.length) a with
              | false => rfl
              | true =>
                rcases mx_of.mp z with z | z
                · have := S.mu.out a (List.mem_of_getElem? ha)
                  rw [z] at this; cases this
                · obtain ⟨m, hm⟩ := List.getElem?_of_mem z
                  have hmn : m < mu1.length := by
                    have := (List.getElem?_eq_some_iff.mp hm).1
                    rw [List.length_take] at this; omega
                  rw [List.getElem?_take_of_lt hmn] at hm
                  have hlt : j < ad.length := (List.getElem?_eq_some_iff.mp ha).1
                  have := (List.getElem?_inj hlt S.mu.nd).mp (ha.trans hm.symm)
                  omega
          · simp [hj] at e
            subst e
            have hlt : j < mu1.length := by
              have := (List.getElem?_eq_some_iff.mp ha).1
              omega
            exact ⟨a, by rw [List.getElem?_take_of_lt hlt]; exact ha, e1⟩

/-! ### what is walked -/
variable {ΨI : List D → List Ct → Prop}
theorem wi_list (h : WE K tl ρ mu fun s mu1 => ∃ xs, s = .dat (.lst xs) ∧ ΨI xs mu1) : WI K (iList K tl) ρ mu ΨI := fun g H ad σ R S k =>
  h g H ad σ _ S fun v s H1 ad1 mu1 S1 hv ⟨xs, e, q⟩ => by
    subst e
    obtain ⟨a, vs, e1, e2, r⟩ := Rep.lst_inv hv
    refine ⟨a, e1, ⟨vs, SqL.of (pub_same _ _ e2)⟩, k _ _ _ _ xs S1 (fun M HM ab => ⟨fun H' ad' mu' σ' ρ' i d S' hi => ?_, fun H' ad' mu' σ' ρ' S' => ?_⟩) q⟩
    · have h3 := S'.base _ _ e2
      obtain ⟨x, h4, h5⟩ := r.get hi
      refine ⟨⟨vs, x, SqL.of (pub_same _ _ h3), h4⟩, fun y H2 ⟨e, hy⟩ => ?_⟩
      subst e
      have := hy vs (SqL.of (pub_same _ _ h3))
      rw [h4] at this; cases this
      exact ⟨S', Same.refl _, h5.mono S'.base⟩
    · have h3 := S'.base _ _ e2
      exact ⟨vs, SqL.of (pub_same _ _ h3), by rw [r.length]; exact Nat.le_refl _⟩
/-- lo, lo + 1, .. -/
def rngD (lo : Int) (n : Nat) : List D := (List.range n).map fun i => .int (lo + (i : Nat))
theorem rngD_get {lo : Int} {n i : Nat} {d : D} (h : (rngD lo n)[i]? = some d) : i < n ∧ d = .int (lo + (i : Nat)) := by
  unfold rngD at h
  rw [List.getElem?_map] at h
  by_cases hi : i < n
  · rw [List.getElem?_range hi] at h
    cases h
    exact ⟨hi, rfl⟩
  · rw [List.getElem?_eq_none (by rw [List.length_range]; omega)] at h; cases h
theorem rngD_len {lo : Int} {n : Nat} : (rngD lo n).length = n := by unfold rngD; simp
theorem itr_ok {lo : Int} {n : Nat} {g : Bg} : ItOk K g (Itr lo n) (rngD lo n) := ⟨fun H' ad' mu' σ' ρ' i d S' hi => by
  obtain ⟨h1, rfl⟩ := rngD_get hi
  exact ⟨h1, fun y H2 ⟨e, hy⟩ => by subst e; subst hy; exact ⟨S', Same.refl _, Rep.int _⟩⟩, fun H' ad' mu' σ' ρ' S' => by rw [rngD_len]; exact Nat.le_refl _⟩
theorem ints1 {G : Hp} {ad : List Addr} {vs : List V} {i : Int} (h : SvsOk K G ad vs [.dat (.int i)]) : vs = [.int i] := RepL.ints_inv (ns := [i]) (SvsOk.dats (ds := [.int i]) h)
theorem ints2 {G : Hp} {ad : List Addr} {vs : List V} {i j : Int} (h : SvsOk K G ad vs [.dat (.int i), .dat (.int j)]) : vs = [.int i, .int j] := RepL.ints_inv (ns := [i, j]) (SvsOk.dats (ds := [.int i, .int j]) h)
theorem ints3 {G : Hp} {ad : List Addr} {vs : List V} {i j l : Int} (h : SvsOk K G ad vs [.dat (.int i), .dat (.int j), .dat (.int l)]) : vs = [.int i, .int j, .int l] := RepL.ints_inv (ns := [i, j, l]) (SvsOk.dats (ds := [.int i, .int j, .int l]) h)
theorem wi_r1 (h : WA K t ρ mu fun ss mu1 => ∃ j : Int, ss = [.dat (.int j)] ∧ (-1000000000000000000 ≤ j ∧ j ≤ 1000000000000000000) ∧ ΨI (rngD 0 j.toNat) mu1) : WI K (iRng1 t) ρ mu ΨI := fun g H ad σ R S k =>
  h g H ad σ _ S fun vs ss H1 ad1 mu1 S1 hs ⟨j, e, h1, q⟩ => by
    subst e
    exact ⟨j, ints1 hs, by omega, by omega, k _ _ _ _ _ S1 (fun _ _ _ => itr_ok) q⟩
theorem wi_r2 (h : WA K t ρ mu fun ss mu1 => ∃ i j : Int, ss = [.dat (.int i), .dat (.int j)] ∧ (-1000000000000000000 ≤ i ∧ i ≤ 1000000000000000000 ∧ -1000000000000000000 ≤ j ∧ j ≤ 1000000000000000000) ∧ ΨI (rngD i (j - i).toNat) mu1) : WI K (iRng2 t) ρ mu ΨI := fun g H ad σ R S k =>
  h g H ad σ _ S fun vs ss H1 ad1 mu1 S1 hs ⟨i, j, e, h1, q⟩ => by
    subst e
    exact ⟨i, j, ints2 hs, ⟨by omega, by omega, by omega, by omega⟩, k _ _ _ _ _ S1 (fun _ _ _ => itr_ok) q⟩
/-- hi, hi - 1, .. (n of them) -/
def dwnD (hi : Int) (n : Nat) : List D := (List.range n).map fun i => .int (hi - (i : Nat))
theorem dwnD_get {hi : Int} {n i : Nat} {d : D} (h : (dwnD hi n)[i]? = some d) : i < n ∧ d = .int (hi - (i : Nat)) := by
  unfold dwnD at h
  rw [List.getElem?_map] at h
  by_cases hi : i < n
  · rw [List.getElem?_range hi] at h
    cases h
    exact ⟨hi, rfl⟩
  · rw [List.getElem?_eq_none (by rw [List.length_range]; omega)] at h; cases h
theorem dwnD_len {hi : Int} {n : Nat} : (dwnD hi n).length = n := by unfold dwnD; simp
theorem itc_ok {hi : Int} {n : Nat} {g : Bg} : ItOk K g (Itc hi (-1) n) (dwnD hi n) := ⟨fun H' ad' mu' σ' ρ' i d S' hx => by
  obtain ⟨h1, rfl⟩ := dwnD_get hx
  refine ⟨h1, fun y H2 ⟨e, hy⟩ => ?_⟩
  subst e
  have z : hi + (i : Nat) * (-1) = hi - (i : Nat) := by omega
  rw [z] at hy
  subst hy
  exact ⟨S', Same.refl _, Rep.int _⟩, fun H' ad' mu' σ' ρ' S' => by rw [dwnD_len]; exact Nat.le_refl _⟩
/-- range(i, j, -1) -/
theorem wi_r3 (h : WA K t ρ mu fun ss mu1 => ∃ i j : Int, ss = [.dat (.int i), .dat (.int j), .dat (.int (-1))] ∧ (-1000000000000000000 ≤ i ∧ i ≤ 1000000000000000000 ∧ -1000000000000000000 ≤ j ∧ j ≤ 1000000000000000000) ∧ ΨI (dwnD i (i - j).toNat) mu1) : WI K (iRng3 t) ρ mu ΨI := fun g H ad σ R S k =>
  h g H ad σ _ S fun vs ss H1 ad1 mu1 S1 hs ⟨i, j, e, h1, q⟩ => by
    subst e
    exact ⟨i, j, -1, _, ints3 hs, RgC.neg (by omega) (by omega) (by omega) (by omega), k _ _ _ _ _ S1 (fun _ _ _ => itc_ok) q⟩
/-- the items with their places -/
def enmD (xs : List D) : List D := xs.mapIdx fun i x => .tup [.int (i : Nat), x]
theorem enmD_get {xs : List D} {i : Nat} {d : D} (h : (enmD xs)[i]? = some d) : ∃ x, xs[i]? = some x ∧ d = .tup [.int (i : Nat), x] := by
  unfold enmD at h
  rw [List.getElem?_mapIdx] at h
  cases q : xs[i]? with
  | none => rw [q] at h; cases h
  | some x => rw [q] at h; cases h; exact ⟨x, rfl, rfl⟩
theorem enmD_len {xs : List D} : (enmD xs).length = xs.length := by unfold enmD; simp
theorem wi_enum (h : WA K t ρ mu fun ss mu1 => ∃ xs, ss = [.dat (.lst xs)] ∧ ΨI (enmD xs) mu1) : WI K (iEnum K t) ρ mu ΨI := fun g H ad σ R S k =>
  h g H ad σ _ S fun vs ss H1 ad1 mu1 S1 hs ⟨xs, e, q⟩ => by
    subst e
    obtain ⟨v, rfl, hv⟩ := one_inv (SvsOk.dats (ds := [.lst xs]) hs)
    obtain ⟨a, vs, e1, e2, r⟩ := Rep.lst_inv hv
    subst e1
    refine ⟨a, vs, rfl, SqL.of (pub_same _ _ e2), k _ _ _ _ (enmD xs) S1 (fun M HM ab => ⟨fun H' ad' mu' σ' ρ' i d S' hi => ?_, fun H' ad' mu' σ' ρ' S' => ?_⟩) q⟩
    · obtain ⟨x, hx, rfl⟩ := enmD_get hi
      have h3 := S'.base _ _ e2
      obtain ⟨y, h4, h5⟩ := r.get hx
      refine ⟨⟨vs, y, SqL.of (pub_same _ _ h3), h4⟩, fun y2 H2 ⟨T, z, e3, hT, e4, hz⟩ => ?_⟩
      subst e4; subst e3
      have := hz vs (SqL.of (pub_same _ _ h3))
      rw [h4] at this; cases this
      obtain ⟨S2, e5, s2⟩ := S'.alloc (o := .tup [.int (i : Nat), y]) hT
      exact ⟨S2, s2, Rep.tup (by rw [e5]; exact upd_same) (.cons (.int _) (.cons ((h5.mono S'.base).mono s2) .nil))⟩
    · have h3 := S'.base _ _ e2
      exact ⟨vs, SqL.of (pub_same _ _ h3), by rw [r.length, enmD_len]; exact Nat.le_refl _⟩
/-- pairs -/
def zipD (xs ys : List D) : List D := (xs.zip ys).map fun p => .tup [p.1, p.2]
theorem zipD_get {xs ys : List D} {i : Nat} {d : D} (h : (zipD xs ys)[i]? = some d) : ∃ x y, xs[i]? = some x ∧ ys[i]? = some y ∧ d = .tup [x, y] := by
  unfold zipD at h
  rw [List.getElem?_map] at h
  cases q : (xs.zip ys)[i]? with
  | none => rw [q] at h; cases h
  | some p =>
    rw [q] at h; cases h
    obtain ⟨h1, h2⟩ := List.getElem?_zip_eq_some.mp q
    exact ⟨p.1, p.2, h1, h2, rfl⟩
theorem zipD_len {xs ys : List D} : (zipD xs ys).length = min xs.length ys.length := by unfold zipD; simp
theorem wi_zip (h : WA K t ρ mu fun ss mu1 => ∃ xs ys, ss = [.dat (.lst xs), .dat (.lst ys)] ∧ ΨI (zipD xs ys) mu1) : WI K (iZip K t) ρ mu ΨI := fun g H ad σ R S k =>
  h g H ad σ _ S fun vs ss H1 ad1 mu1 S1 hs ⟨xs, ys, e, q⟩ => by
    subst e
    obtain ⟨v, v2, rfl, hv, hv2⟩ : ∃ v v2, vs = [v, v2] ∧ Rep K (pub (Mx g.M ad1) H1) v (.lst xs) ∧ Rep K (pub (Mx g.M ad1) H1) v2 (.lst ys) := by
      cases SvsOk.dats (ds := [.lst xs, .lst ys]) hs with
      | cons a r => obtain ⟨v2, rfl, h2⟩ := one_inv r; exact ⟨_, _, rfl, a, h2⟩
    obtain ⟨a, vs, rfl, e2, r⟩ := Rep.lst_inv hv
    obtain ⟨b, ws, rfl, e2', r'⟩ := Rep.lst_inv hv2
    refine ⟨a, b, vs, ws, rfl, SqL.of (pub_same _ _ e2), SqL.of (pub_same _ _ e2'), k _ _ _ _ (zipD xs ys) S1 (fun M HM ab => ⟨fun H' ad' mu' σ' ρ' i d S' hi => ?_, fun H' ad' mu' σ' ρ' S' => ?_⟩) q⟩
    · obtain ⟨x, y, hx, hy, rfl⟩ := zipD_get hi
      have h3 := S'.base _ _ e2
      have h3' := S'.base _ _ e2'
      obtain ⟨x', h4, h5⟩ := r.get hx
      obtain ⟨y', h4', h5'⟩ := r'.get hy
      refine ⟨⟨vs, ws, x', y', SqL.of (pub_same _ _ h3), SqL.of (pub_same _ _ h3'), h4, h4'⟩, fun y2 H2 ⟨T, z, z', e3, hT, e4, hz, hz'⟩ => ?_⟩
      subst e4; subst e3
      have t1 := hz vs (SqL.of (pub_same _ _ h3))
      rw [h4] at t1; cases t1
      have t2 := hz' ws (SqL.of (pub_same _ _ h3'))
      rw [h4'] at t2; cases t2
      obtain ⟨S2, e5, s2⟩ := S'.alloc (o := .tup [x', y']) hT
      exact ⟨S2, s2, Rep.tup (by rw [e5]; exact upd_same) (.cons ((h5.mono S'.base).mono s2) (.cons ((h5'.mono S'.base).mono s2) .nil))⟩
    · have h3 := S'.base _ _ e2
      have h3' := S'.base _ _ e2'
      exact ⟨vs, ws, SqL.of (pub_same _ _ h3), SqL.of (pub_same _ _ h3'), by rw [r.length, r'.length, zipD_len]; omega⟩
/-- a text, sign by sign -/
def strD (z : Str) : List D := z.cps.toList.map fun c => .str ⟨#[c]⟩
theorem wi_str (h : WE K te ρ mu fun s mu1 => ∃ z, s = .dat (.str z) ∧ ΨI (strD z) mu1) : WI K (iStr te) ρ mu ΨI := fun g H ad σ R S k =>
  h g H ad σ _ S fun v s H1 ad1 mu1 S1 hv ⟨z, e, q⟩ => by
    subst e
    refine ⟨z, hv.str_inv, k _ _ _ _ (strD z) S1 (fun M HM ab => ⟨fun H' ad' mu' σ' ρ' i d S' hi => ?_, fun H' ad' mu' σ' ρ' S' => ?_⟩) q⟩
    · unfold strD at hi
      rw [List.getElem?_map] at hi
      cases q : z.cps.toList[i]? with
      | none => rw [q] at hi; cases hi
      | some c =>
        rw [q] at hi; cases hi
        have q2 : z.cps[i]? = some c := by rw [← Array.getElem?_toList]; exact q
        have hlt : i < z.cps.size := (Array.getElem?_eq_some_iff.mp q2).1
        refine ⟨hlt, fun y H2 ⟨e1, c', e2, e3⟩ => ?_⟩
        subst e1; subst e3
        rw [q2] at e2; cases e2
        exact ⟨S', Same.refl _, Rep.str _⟩
    · show z.cps.size ≤ (strD z).length
      unfold strD; simp
/-- reversed(range(n)) -/
theorem wi_revR {tr : L2.St → Hp → (Int → Int → Hp → Prop) → Prop} (h : ∀ (g : Bg) (H : Hp) (ad : List Addr) (σ : L2.St) (Q : Int → Int → Hp → Prop), StOk K g H ad mu σ ρ → (∀ n : Nat, n ≤ 1000000 → ΨI (dwnD ((n : Int) - 1) n) mu → Q 0 (n : Int) H) → tr σ H Q) : WI K (iRevR tr) ρ mu ΨI := fun g H ad σ R S k =>
  h g H ad σ _ S fun n hn q => by
    refine ⟨by omega, by omega, by omega, by omega, ?_⟩
    have e : ((((n : Int) - 0).toNat : Nat) : Int) = (n : Int) := by omega
    have e2 : ((n : Int) - 0).toNat = n := by omega
    have e3 : (0 : Int) + (n : Int) - 1 = (n : Int) - 1 := by omega
    rw [e2, e3]
    exact k _ _ _ _ _ S (fun _ _ _ => itc_ok) q

theorem wi_rev1 (h : WE K te ρ mu fun s mu1 => ∃ n : Nat, s = .dat (.int (n : Int)) ∧ n ≤ 1000000 ∧ ΨI (dwnD ((n : Int) - 1) n) mu1) : WI K (iRevR (tRg1 te)) ρ mu ΨI := fun g H ad σ R S k =>
  h g H ad σ _ S fun v s H1 ad1 mu1 S1 hv ⟨n, e, hn, q⟩ => by
    subst e
    refine ⟨(n : Int), hv.int_inv, by omega, by omega, by omega, by omega, ?_⟩
    have e : ((((n : Int) - 0).toNat : Nat) : Int) = (n : Int) := by omega
    have e2 : ((n : Int) - 0).toNat = n := by omega
    have e3 : (0 : Int) + (n : Int) - 1 = (n : Int) - 1 := by omega
    rw [e2, e3]
    exact k _ _ _ _ _ S1 (fun _ _ _ => itc_ok) q
/-! ### for -/
theorem ws_forE {wi : TI} {tg : TG} {tb : TS} (h : WI K wi ρ mu fun xs mu1 => ∃ I : Nat → Rho → List Ct → Prop, I 0 ρ mu1 ∧
    (∀ (i : Nat) (d : D) ρ1 mu1, xs[i]? = some d → I i ρ1 mu1 → WG K tg (.dat d) ρ1 mu1 fun ρ2 mu2 => WS K n tb ρ2 mu2 { E with nx := I (i + 1), ct := I (i + 1), bk := E.nx }) ∧
    (∀ ρ1 mu1, I xs.length ρ1 mu1 → E.nx ρ1 mu1)) : WS K n (tFor wi tg tb) ρ mu E := fun g H ad σ D hn S k1 k2 k3 k4 =>
  h g H ad σ _ S fun J H1 ad1 mu1 xs S1 hJ ⟨I, h0, hs, hd⟩ => by
    have J1 := hJ g.M g.HM g.ab
    refine ⟨fun i m σ' H' => m = xs.length - i ∧ i ≤ xs.length ∧ ∃ ad' mu' ρ', StOk K (g.now H1 ad1) H' ad' mu' σ' ρ' ∧ I i ρ' mu', ⟨xs.length, by simp, Nat.zero_le _, ad1, mu1, ρ, S1.now, h0⟩, ?_⟩
    rintro i m σ' H' ⟨rfl, hi, ad', mu', ρ', S', hI⟩
    by_cases hlt : i < xs.length
    · have hx : xs[i]? = some xs[i] := List.getElem?_eq_getElem hlt
      obtain ⟨go, hy⟩ := J1.step H' ad' mu' σ' ρ' i _ S' hx
      refine .inr ⟨go, fun σ2 H2 => ∃ ad2 mu2 ρ2, StOk K (g.now H1 ad1) H2 ad2 mu2 σ2 ρ2 ∧ I (i + 1) ρ2 mu2, fun σ2 H2 p => ⟨xs.length - (i + 1), by omega, rfl, hlt, p⟩, fun v H2 y => ?_⟩
      obtain ⟨S2, _, hv⟩ := hy v H2 y
      refine hs i _ ρ' mu' hx hI (g.now H1 ad1) H2 ad' σ' v _ S2 hv fun σ3 ρ3 H3 ad3 mu3 S3 q3 => ?_
      refine q3 (g.now H1 ad1) H3 ad3 σ3 _ hn S3 (fun σ4 ρ4 H4 ad4 mu4 S4 q4 => ⟨ad4, mu4, ρ4, S4, q4⟩) (fun v s H4 ad4 mu4 R4 q4 => k2 v s H4 ad4 mu4 (S1.then_ret R4) q4) (fun σ4 ρ4 H4 ad4 mu4 S4 q4 => k1 _ _ _ _ _ (S1.then S4) q4) (fun σ4 ρ4 H4 ad4 mu4 S4 q4 => ⟨ad4, mu4, ρ4, S4, q4⟩)
    · have e : i = xs.length := by omega
      subst e
      exact .inl ⟨J1.stop H' ad' mu' σ' ρ' S', k1 _ _ _ _ _ (S1.then S') (hd ρ' mu' hI)⟩
theorem ws_for {wi : TI} {tg : TG} {tb : TS} (I : Nat → Rho → List Ct → Prop) (h : WI K wi ρ mu fun xs mu1 => I 0 ρ mu1 ∧
    (∀ (i : Nat) (d : D) ρ1 mu1, xs[i]? = some d → I i ρ1 mu1 → WG K tg (.dat d) ρ1 mu1 fun ρ2 mu2 => WS K n tb ρ2 mu2 { E with nx := I (i + 1), ct := I (i + 1), bk := E.nx }) ∧
    (∀ ρ1 mu1, I xs.length ρ1 mu1 → E.nx ρ1 mu1)) : WS K n (tFor wi tg tb) ρ mu E := ws_forE fun g H ad σ R S k => h g H ad σ R S fun J H' ad' mu' xs S' hJ z => k J H' ad' mu' xs S' hJ ⟨I, z⟩
/-- while True -/
theorem ws_while {tc : TT} {tb : TS} (I : Nat → Rho → List Ct → Prop) (m0 : Nat) (h0 : I m0 ρ mu) (h : ∀ m ρ1 mu1, I m ρ1 mu1 → WT K tc ρ1 mu1 fun b mu2 => (b = true → WS K n tb ρ1 mu2 { E with nx := fun ρ2 mu3 => ∃ m', m' < m ∧ I m' ρ2 mu3, ct := fun ρ2 mu3 => ∃ m', m' < m ∧ I m' ρ2 mu3, bk := E.nx }) ∧ (b = false → E.nx ρ1 mu2)) :
    WS K n (tWhile tc tb) ρ mu E := fun g H ad σ D hn S k1 k2 k3 k4 => by
  refine ⟨fun m σ' H' => ∃ ad' mu' ρ', StOk K (g.now H ad) H' ad' mu' σ' ρ' ∧ I m ρ' mu', ⟨m0, ad, mu, ρ, S.now, h0⟩, ?_⟩
  rintro m σ' H' ⟨ad', mu', ρ', S', hI⟩
  refine h m ρ' mu' hI (g.now H ad) H' ad' σ' _ S' fun b H1 ad1 mu1 S1 hb => ?_
  cases b with
  | false => exact k1 _ _ _ _ _ (S.then S1) (hb.2 rfl)
  | true =>
    show if true = true then _ else _
    rw [if_pos rfl]
    refine ⟨fun σ2 H2 => ∃ m', m' < m ∧ ∃ ad2 mu2 ρ2, StOk K (g.now H ad) H2 ad2 mu2 σ2 ρ2 ∧ I m' ρ2 mu2, fun σ2 H2 p => p, ?_⟩
    exact hb.1 rfl (g.now H ad) H1 ad1 σ' _ hn S1 (fun σ4 ρ4 H4 ad4 mu4 S4 ⟨m', hm, q4⟩ => ⟨m', hm, ad4, mu4, ρ4, S4, q4⟩) (fun v s H4 ad4 mu4 R4 q4 => k2 v s H4 ad4 mu4 (S.then_ret R4) q4) (fun σ4 ρ4 H4 ad4 mu4 S4 q4 => k1 _ _ _ _ _ (S.then S4) q4)
      (fun σ4 ρ4 H4 ad4 mu4 S4 ⟨m', hm, q4⟩ => ⟨m', hm, ad4, mu4, ρ4, S4, q4⟩)

/-! ### comprehensions -/
def wipeR (ρ : Rho) : List Nat → Rho
  | [] => ρ
  | v :: vs => (wipeR ρ vs).set v none
theorem wipeR_len (ρ : Rho) : ∀ vs, (wipeR ρ vs).length = ρ.length
  | [] => rfl
  | v :: vs => by unfold wipeR; rw [List.length_set, wipeR_len ρ vs]
theorem wipe_at {σ : L2.St} {vs : List Nat} {i : Nat} (h : i ∉ vs) : (wipe σ vs)[i]? = σ[i]? := by
  induction vs with
  | nil => rfl
  | cons v vs ih =>
    show ((wipe σ vs).set v none)[i]? = σ[i]?
    rw [List.getElem?_set_ne (fun e => h (by rw [e]; exact List.mem_cons_self))]
    exact ih fun z => h (List.mem_cons_of_mem _ z)
theorem wipe_in {σ : L2.St} {vs : List Nat} {i : Nat} (h : i ∈ vs) (hl : i < σ.length) : (wipe σ vs)[i]? = some none := by
  induction vs with
  | nil => cases h
  | cons v vs ih =>
    show ((wipe σ vs).set v none)[i]? = some none
    by_cases e : v = i
    · rw [e, List.getElem?_set_self (by rw [wipe_length]; exact hl)]
    · rw [List.getElem?_set_ne e]
      rcases List.mem_cons.mp h with z | z
      · exact absurd z.symm e
      · exact ih z
theorem wipe_out {σ : L2.St} {vs : List Nat} {i : Nat} (hl : ¬ i < σ.length) : (wipe σ vs)[i]? = none := by
  rw [List.getElem?_eq_none (by rw [wipe_length]; omega)]
theorem wipe_set {σ : L2.St} {vs : List Nat} {j : Nat} {x : Option V} (h : j ∈ vs) : wipe (σ.set j x) vs = wipe σ vs := by
  apply List.ext_getElem?
  intro i
  by_cases hi : i ∈ vs
  · by_cases hl : i < σ.length
    · rw [wipe_in hi (by rw [List.length_set]; exact hl), wipe_in hi hl]
    · rw [wipe_out (by rw [List.length_set]; exact hl), wipe_out hl]
  · rw [wipe_at hi, wipe_at hi, List.getElem?_set_ne]
    exact fun e => hi (e ▸ h)
theorem wipe_wipe {σ : L2.St} {vs : List Nat} : wipe (wipe σ vs) vs = wipe σ vs := by
  apply List.ext_getElem?
  intro i
  by_cases hi : i ∈ vs
  · by_cases hl : i < σ.length
    · rw [wipe_in hi (by rw [wipe_length]; exact hl), wipe_in hi hl]
    · rw [wipe_out (by rw [wipe_length]; exact hl), wipe_out hl]
  · rw [wipe_at hi]
theorem wipeR_get {ρ : Rho} {i : Nat} {s : SV} : ∀ {vs : List Nat}, (wipeR ρ vs)[i]? = some (some s) → ρ[i]? = some (some s) ∧ i ∉ vs
  | [], h => ⟨h, by simp⟩
  | v :: vs, h => by
    unfold wipeR at h
    by_cases hi : v = i
    · subst hi
      by_cases hv : v < (wipeR ρ vs).length
      · rw [List.getElem?_set_self hv] at h; cases h
      · rw [List.getElem?_eq_none (by simpa using hv)] at h; cases h
    · rw [List.getElem?_set_ne hi] at h
      obtain ⟨h1, h2⟩ := wipeR_get h
      exact ⟨h1, by simp only [List.mem_cons, not_or]; exact ⟨fun e => hi e.symm, h2⟩⟩
theorem StOk.wipe {g : Bg} {H : Hp} {ad : List Addr} {σ : L2.St} (S : StOk K g H ad mu σ ρ) (vs : List Nat) : StOk K g H ad mu (wipe σ vs) (wipeR ρ vs) :=
  ⟨S.mu, S.prot, S.pre, S.base, by rw [wipeR_len, wipe_length]; exact S.ln, fun i s e => by
    obtain ⟨h1, h2⟩ := wipeR_get e
    obtain ⟨v, h3, h4⟩ := S.sl i s h1
    exact ⟨v, by rw [wipe_at h2]; exact h3, h4⟩⟩
/-- a target of a comprehension: it stores names of the comprehension's own -/
structure GIn (tg : TG) (vs : List Nat) : Prop where
  imp : ∀ (v : V) (σ : L2.St) (H : Hp) (Q Q' : L2.St → Hp → Prop), (∀ σ2 H2, wipe σ2 vs = wipe σ vs → Q σ2 H2 → Q' σ2 H2) → tg v σ H Q → tg v σ H Q'
structure GsIn (tg : TGs) (vs : List Nat) : Prop where
  imp : ∀ (ws : List V) (σ : L2.St) (H : Hp) (Q Q' : L2.St → Hp → Prop), (∀ σ2 H2, wipe σ2 vs = wipe σ vs → Q σ2 H2 → Q' σ2 H2) → tg ws σ H Q → tg ws σ H Q'
theorem gin_name {j : Nat} {vs : List Nat} (h : j ∈ vs) : GIn (gName j) vs := ⟨fun v σ H Q Q' k q => k _ _ (wipe_set h) q⟩
theorem gin_nil {vs : List Nat} : GsIn gNil vs := ⟨fun ws σ H Q Q' k q => ⟨q.1, k _ _ rfl q.2⟩⟩
theorem gin_cons {tg : TG} {tr : TGs} {vs : List Nat} (h1 : GIn tg vs) (h2 : GsIn tr vs) : GsIn (gCons tg tr) vs := ⟨fun ws σ H Q Q' k ⟨v, r, e, q⟩ => ⟨v, r, e, h1.imp _ _ _ _ _ (fun σ2 H2 z q2 => h2.imp _ _ _ _ _ (fun σ3 H3 z3 q3 => k _ _ (z3.trans z) q3) q2) q⟩⟩
theorem gin_tup {m : Nat} {tr : TGs} {vs : List Nat} (h : GsIn tr vs) : GIn (gTup K m tr) vs := ⟨fun v σ H Q Q' k ⟨a, xs, e1, e2, e3, q⟩ => ⟨a, xs, e1, e2, e3, h.imp _ _ _ _ _ k q⟩⟩
/-- the wish carries what is known of the slots -/
theorem gin_use {tg : TG} {vs : List Nat} (h : GIn tg vs) {v : V} {σ : L2.St} {H : Hp} {Q : L2.St → Hp → Prop} (q : tg v σ H Q) : tg v σ H fun σ2 H2 => wipe σ2 vs = wipe σ vs ∧ Q σ2 H2 := h.imp _ _ _ _ _ (fun σ2 H2 z q => ⟨z, q⟩) q
theorem we_lcE {wi : TI} {tg : TG} {vs : List Nat} {tt : TT} (hg : GIn tg vs) (h : WI K wi ρ mu fun xs mu1 => ∃ I : Nat → List D → List Ct → Prop, I 0 [] mu1 ∧
    (∀ (i : Nat) (d : D) (ys : List D) mu1, xs[i]? = some d → I i ys mu1 → ys.length ≤ i → WG K tg (.dat d) (wipeR ρ vs) mu1 fun ρ2 mu2 => WT K tt ρ2 mu2 fun b mu3 =>
      if b = true then WE K te ρ2 mu3 fun s mu4 => i < 1000000 ∧ I (i + 1) (ys ++ [s.toD]) mu4 else I (i + 1) ys mu3) ∧
    (∀ ys mu1, I xs.length ys mu1 → ys.length ≤ xs.length → Φ (.dat (.lst ys)) mu1)) : WE K (tLc wi tg tt te vs) ρ mu Φ := fun g H ad σ Q S k =>
  h g H ad σ _ S fun J H1 ad1 mu1 xs S1 hJ ⟨I, h0, hs, hd⟩ D hD => by
    have hf := S1.mu.free hD
    -- the new list stands apart
    let G (ws : List V) : Bg := ⟨fun b => g.M b || decide (b = D), upd g.HM D (.lst ws), pub (Mx g.M ad1) H1, g.ab⟩
    have Mg : ∀ (ad' : List Addr) b, Mx (fun b => g.M b || decide (b = D)) ad' b = true ↔ Mx g.M ad' b = true ∨ b = D := fun ad' b => by
      rw [mx_of, mx_of]; simp; constructor
      · rintro ((a | a) | a)
        · exact .inl (.inl a)
        · exact .inr a
        · exact .inl (.inr a)
      · rintro ((a | a) | a)
        · exact .inl (.inl a)
        · exact .inr a
        · exact .inl (.inr a)
    have up : ∀ (ad' : List Addr) (H' : Hp), Same (pub (Mx (fun b => g.M b || decide (b = D)) ad') H') (pub (Mx g.M ad') H') := fun ad' H' => pub_up fun b hb => (Mg ad' b).mpr (.inl hb)
    -- from a state with the list apart: the list changed
    have chg : ∀ {ws ws' : List V} {H' : Hp} {ad' : List Addr} {mu' : List Ct} {σ' : L2.St} {ρ' : Rho}, StOk K (G ws) H' ad' mu' σ' ρ' → StOk K (G ws') (upd H' D (.lst ws')) ad' mu' σ' ρ' := fun {ws ws' H' ad' mu' σ' ρ'} S' => by
      have hM : (fun b => g.M b || decide (b = D)) D = true := by simp
      have e : pub (Mx (fun b => g.M b || decide (b = D)) ad') (upd H' D (.lst ws')) = pub (Mx (fun b => g.M b || decide (b = D)) ad') H' := pub_updM (mx_of.mpr (.inl hM))
      have nD : ∀ a ∈ ad', a ≠ D := fun a ha z => by
        have := S'.mu.out a ha
        rw [z] at this
        rw [show (G ws).M D = true from hM] at this; cases this
      refine ⟨⟨fun b hb => ?_, S'.mu.nd, S'.mu.out, S'.mu.len, fun i a c h1 h2 => ?_⟩, fun b hb => ?_, S'.pre, by show Same _ (pub (Mx (fun b => g.M b || decide (b = D)) ad') (upd H' D (.lst ws'))); rw [e]; exact S'.base, S'.ln, fun i s h1 => ?_⟩
      · by_cases hb2 : b = D
        · rw [hb2, upd_same]; rfl
        · rw [upd_ne hb2]; exact S'.mu.fin b hb
      · obtain ⟨o, h3, h4⟩ := S'.mu.ct i a c h1 h2
        refine ⟨o, by rw [upd_ne (nD a (List.mem_of_getElem? h1))]; exact h3, ?_⟩
        show CtOk K (pub (Mx (fun b => g.M b || decide (b = D)) ad') (upd H' D (.lst ws'))) a o c
        rw [e]; exact h4
      · show upd H' D (.lst ws') b = upd g.HM D (.lst ws') b
        by_cases hb2 : b = D
        · rw [hb2, upd_same, upd_same]
        · rw [upd_ne hb2, upd_ne hb2]
          have := S'.prot b hb
          rw [this]
          show upd g.HM D (.lst ws) b = g.HM b
          rw [upd_ne hb2]
      · obtain ⟨v, h3, h4⟩ := S'.sl i s h1
        refine ⟨v, h3, ?_⟩
        show SvOk K (pub (Mx (fun b => g.M b || decide (b = D)) ad') (upd H' D (.lst ws'))) ad' v s
        rw [e]; exact h4
    have st0 : StOk K (G []) (upd H1 D (.lst [])) ad1 mu1 σ ρ := by
      obtain ⟨S2, e2, s2⟩ := S1.alloc (o := .lst []) hD
      have e3 : pub (Mx (fun b => g.M b || decide (b = D)) ad1) (upd H1 D (.lst [])) = pub (Mx g.M ad1) H1 := by
        funext b
        by_cases hb : b = D
        · rw [pub_none ((Mg ad1 b).mpr (.inr hb)), hb, pub_of hf, hD]
        · unfold pub
          have : Mx (fun b => g.M b || decide (b = D)) ad1 b = Mx g.M ad1 b := by unfold Mx; simp [hb]
          rw [this, upd_ne hb]
      have nD : ∀ a ∈ ad1, a ≠ D := fun a ha z => by
        rw [z] at ha
        rw [mx_of.mpr (.inr ha)] at hf; cases hf
      refine ⟨⟨fun b hb => ?_, S1.mu.nd, fun a ha => ?_, S1.mu.len, fun i a c h1 h2 => ?_⟩, fun b hb => ?_, S1.pre, by show Same _ (pub (Mx (fun b => g.M b || decide (b = D)) ad1) (upd H1 D (.lst []))); rw [e3]; exact Same.refl _, S1.ln, fun i s h1 => ?_⟩
      · by_cases hb2 : b = D
        · rw [hb2, upd_same]; rfl
        · rw [upd_ne hb2]
          refine S1.mu.fin b ?_
          have hb : (g.M b || decide (b = D)) = true := hb
          simp [hb2] at hb; exact hb
      · show (g.M a || decide (a = D)) = false
        simp [S1.mu.out a ha, nD a ha]
      · obtain ⟨o, h3, h4⟩ := S1.mu.ct i a c h1 h2
        refine ⟨o, by rw [upd_ne (nD a (List.mem_of_getElem? h1))]; exact h3, ?_⟩
        show CtOk K (pub (Mx (fun b => g.M b || decide (b = D)) ad1) (upd H1 D (.lst []))) a o c
        rw [e3]; exact h4
      · show upd H1 D (.lst []) b = upd g.HM D (.lst []) b
        by_cases hb2 : b = D
        · rw [hb2, upd_same, upd_same]
        · rw [upd_ne hb2, upd_ne hb2]
          refine S1.prot b ?_
          have hb : (g.M b || decide (b = D)) = true := hb
          simp [hb2] at hb; exact hb
      · obtain ⟨v, h3, h4⟩ := S1.sl i s h1
        refine ⟨v, h3, ?_⟩
        show SvOk K (pub (Mx (fun b => g.M b || decide (b = D)) ad1) (upd H1 D (.lst []))) ad1 v s
        rw [e3]; exact h4
    have slots : ∀ {ws : List V} {H' : Hp} {ad' : List Addr} {mu' : List Ct} {σ' : L2.St} {ρ' : Rho}, StOk K (G ws) H' ad' mu' σ' ρ' → H' D = some (.lst ws) := fun {ws H' ad' mu' σ' ρ'} S' => by
      rw [S'.prot D (by show (g.M D || decide (D = D)) = true; simp)]
      exact upd_same
    refine ⟨fun i m H' => m = xs.length - i ∧ i ≤ xs.length ∧ ∃ ws ys ad' mu', StOk K (G ws) H' ad' mu' σ ρ ∧ RepL K (pub (Mx (G ws).M ad') H') ws ys ∧ ys.length ≤ i ∧ I i ys mu',
      ⟨xs.length, by simp, Nat.zero_le _, [], [], ad1, mu1, st0, .nil, Nat.le_refl _, h0⟩, ?_⟩
    rintro i m H' ⟨rfl, hi, ws, ys, ad', mu', S', hr, hyl, hI⟩
    have J1 := hJ (G ws).M (G ws).HM (G ws).ab
    by_cases hlt : i < xs.length
    · have hx : xs[i]? = some xs[i] := List.getElem?_eq_getElem hlt
      obtain ⟨go, hy⟩ := J1.step H' ad' mu' σ ρ i _ S' hx
      refine .inr ⟨go, fun H2 => ∃ ws2 ys2 ad2 mu2, StOk K (G ws2) H2 ad2 mu2 σ ρ ∧ RepL K (pub (Mx (G ws2).M ad2) H2) ws2 ys2 ∧ ys2.length ≤ i + 1 ∧ I (i + 1) ys2 mu2, fun H2 p => ⟨xs.length - (i + 1), by omega, rfl, hlt, p⟩, fun v H2 y => ?_⟩
      obtain ⟨S2, s2, hv⟩ := hy v H2 y
      have hr2 : RepL K (pub (Mx (G ws).M ad') H2) ws ys := hr.mono s2
      refine hg.imp _ _ _ _ _ (fun σ2 H3 z q => ⟨z.trans wipe_wipe, q⟩) (hs i _ ys mu' hx hI hyl ((G ws).here H2 ad') H2 ad' (wipe σ vs) v _ (S2.here.wipe vs) hv fun σ3 ρ3 H3 ad3 mu3 S3 q3 => ?_)
      refine q3 ((G ws).here H2 ad') H3 ad3 σ3 _ S3 fun b H4 ad4 mu4 S4 hb => ?_
      cases b with
      | false =>
        have S5 := S2.reslot S4
        exact ⟨ws, ys, ad4, mu4, S5, hr2.mono S4.base, by omega, hb⟩
      | true =>
        have hb : WE K te ρ3 mu4 fun s mu5 => i < 1000000 ∧ I (i + 1) (ys ++ [s.toD]) mu5 := hb
        refine hb ((G ws).here H2 ad') H4 ad4 σ3 _ S4 fun yv s H5 ad5 mu5 S5 hyv ⟨h1, h2⟩ => ?_
        have S6 := S2.reslot S5
        have hr3 := hr2.mono S5.base
        refine ⟨ws, slots S6, Nat.lt_of_lt_of_le (Nat.lt_of_le_of_lt (by rw [hr.length]; exact hyl) h1) (by decide), ws ++ [yv], ys ++ [s.toD], ad5, mu5, chg S6, ?_, by rw [List.length_append, List.length_singleton]; omega, h2⟩
        have hM : (fun b => g.M b || decide (b = D)) D = true := by simp
        have e : pub (Mx (fun b => g.M b || decide (b = D)) ad5) (upd H5 D (.lst (ws ++ [yv]))) = pub (Mx (fun b => g.M b || decide (b = D)) ad5) H5 := pub_updM (mx_of.mpr (.inl hM))
        show RepL K (pub (Mx (fun b => g.M b || decide (b = D)) ad5) (upd H5 D (.lst (ws ++ [yv])))) (ws ++ [yv]) (ys ++ [s.toD])
        rw [e]
        exact hr3.append (.cons hyv.toD .nil)
    · have e : i = xs.length := by omega
      subst e
      have gD : g.M D = false := by
        cases q : g.M D with
        | false => rfl
        | true => rw [mx_of.mpr (.inl q)] at hf; cases hf
      have u := up ad' H'
      have oD : H' D = some (.lst ws) := slots S'
      have nD : D ∉ ad' := fun z => by
        have := S'.mu.out D z
        rw [show (G ws).M D = true by show (g.M D || decide (D = D)) = true; simp] at this; cases this
      have SF : StOk K g H' ad' mu' σ ρ := by
        refine ⟨⟨fun b hb => S'.mu.fin b ?_, S'.mu.nd, fun a ha => ?_, S'.mu.len, fun i a c h1 h2 => ?_⟩, fun b hb => ?_, S'.pre, S1.base.trans (S'.base.trans u), S'.ln, fun i s h1 => ?_⟩
        · show (g.M b || decide (b = D)) = true
          rw [hb]; rfl
        · have : (g.M a || decide (a = D)) = false := S'.mu.out a ha
          cases q : g.M a with
          | false => rfl
          | true => rw [q] at this; cases this
        · obtain ⟨o, h3, h4⟩ := S'.mu.ct i a c h1 h2
          exact ⟨o, h3, h4.mono u⟩
        · have hb2 : b ≠ D := fun z => by rw [z, gD] at hb; cases hb
          rw [S'.prot b (by show (g.M b || decide (b = D)) = true; rw [hb]; rfl)]
          show upd g.HM D (.lst ws) b = g.HM b
          rw [upd_ne hb2]
        · obtain ⟨v, h3, h4⟩ := S'.sl i s h1
          exact ⟨v, h3, h4.mono u List.take_length⟩
      refine .inl ⟨J1.stop H' ad' mu' σ ρ S', k (.ref D) (.dat (.lst ys)) H' ad' mu' SF (Rep.lst ?_ (hr.mono u)) (hd ys mu' hI hyl)⟩
      rw [pub_of]
      · exact oD
      · cases z : Mx g.M ad' D with
        | false => rfl
        | true =>
          rcases mx_of.mp z with z | z
          · rw [gD] at z; cases z
          · exact absurd z nD
theorem we_lc {wi : TI} {tg : TG} {vs : List Nat} {tt : TT} (hg : GIn tg vs) (I : Nat → List D → List Ct → Prop) (h : WI K wi ρ mu fun xs mu1 => I 0 [] mu1 ∧
    (∀ (i : Nat) (d : D) (ys : List D) mu1, xs[i]? = some d → I i ys mu1 → ys.length ≤ i → WG K tg (.dat d) (wipeR ρ vs) mu1 fun ρ2 mu2 => WT K tt ρ2 mu2 fun b mu3 =>
      if b = true then WE K te ρ2 mu3 fun s mu4 => i < 1000000 ∧ I (i + 1) (ys ++ [s.toD]) mu4 else I (i + 1) ys mu3) ∧
    (∀ ys mu1, I xs.length ys mu1 → ys.length ≤ xs.length → Φ (.dat (.lst ys)) mu1)) : WE K (tLc wi tg tt te vs) ρ mu Φ := we_lcE hg fun g H ad σ R S k => h g H ad σ R S fun J H' ad' mu' xs S' hJ z => k J H' ad' mu' xs S' hJ ⟨I, z⟩
end
end LP
end

section
set_option maxHeartbeats 2000000
/-! LpD: what a def promises over data, calls, built-ins, methods, dicts. -/
namespace LP
open PySem PySem.Spec PyProof.Rows L2

structure Spec (γ : Type) where
  args : γ → List SV
  mu : γ → List Ct
  pre : γ → Prop
  post : γ → SV → List Ct → Prop
/-- the promise: called with such arguments and such changing things it gives such a value and leaves them so -/
def spG {γ : Type} (K : PySem.W.Frag) (S : Spec γ) : Sp := fun vs H Q _ => ∃ (x : γ) (M : Addr → Bool) (ad : List Addr), MuOk K M H ad (S.mu x) ∧ SvsOk K (pub (Mx M ad) H) ad vs (S.args x) ∧ S.pre x ∧
  ∀ v s H' ad' mu', S.post x s mu' → ad'.take ad.length = ad → MuOk K M H' ad' mu' → (∀ b, M b = true → H' b = H b) → Same (pub (Mx M ad) H) (pub (Mx M ad') H') → SvOk K (pub (Mx M ad') H') ad' v s → Q v H'
/-- data alone go in and come out -/
structure PSpec (γ : Type) where
  args : γ → List D
  pre : γ → Prop
  post : γ → D → Prop
def PSpec.S {γ : Type} (P : PSpec γ) : Spec γ := ⟨fun x => (P.args x).map .dat, fun _ => [], P.pre, fun x s mu => mu = [] ∧ ∃ d, s = .dat d ∧ P.post x d⟩

theorem PSpec.S_args {γ : Type} {P : PSpec γ} {x : γ} : P.S.args x = (P.args x).map .dat := rfl
theorem PSpec.S_mu {γ : Type} {P : PSpec γ} {x : γ} : P.S.mu x = [] := rfl
theorem PSpec.S_pre {γ : Type} {P : PSpec γ} {x : γ} : P.S.pre x = P.pre x := rfl
theorem PSpec.S_post {γ : Type} {P : PSpec γ} {x : γ} {s : SV} {mu : List Ct} : P.S.post x s mu = (mu = [] ∧ ∃ d, s = .dat d ∧ P.post x d) := rfl
def startR (N : List Str) (ss : List SV) : Rho := ss.map some ++ List.replicate (N.length - ss.length) none
section
variable {P : Program} {w : World} {K : PySem.W.Frag} {mg : Str → Option Value} {base : Heap} {γ : Type} {S : Spec γ}
theorem strt_get {N : List Str} {G : Hp} {ad : List Addr} {vs : List V} {ss : List SV} (h : SvsOk K G ad vs ss) {i : Nat} {s : SV} (e : (startR N ss)[i]? = some (some s)) : ∃ v, (L2.start N vs)[i]? = some (some v) ∧ SvOk K G ad v s := by
  unfold startR at e
  by_cases hi : i < ss.length
  · rw [List.getElem?_append_left (by simpa using hi), List.getElem?_map] at e
    cases q : ss[i]? with
    | none => rw [q] at e; cases e
    | some t =>
      rw [q] at e; cases e
      obtain ⟨v, h1, h2⟩ := h.get q
      refine ⟨v, ?_, h2⟩
      unfold L2.start
      rw [List.getElem?_append_left (by rw [List.length_map, h.length]; exact hi), List.getElem?_map, h1]; rfl
  · rw [List.getElem?_append_right (by simpa using hi), List.getElem?_replicate] at e
    split at e <;> cases e
theorem StOk.mk0 {M : Addr → Bool} {H : Hp} {ad : List Addr} {mu : List Ct} {N : List Str} {vs : List V} {ss : List SV} (h1 : MuOk K M H ad mu) (h2 : SvsOk K (pub (Mx M ad) H) ad vs ss) : StOk K ⟨M, H, pub (Mx M ad) H, ad⟩ H ad mu (L2.start N vs) (startR N ss) :=
  ⟨h1, fun _ _ => rfl, List.take_length, Same.refl _, by unfold L2.start startR; simp [h2.length], fun i s e => strt_get h2 e⟩
/-- THE RULE for a def -/
theorem fun_ok {x qual : Str} {st : Stmt} {f : Addr} {fd : FuncData} {N ps : List Str} {k : Nat} (F : Fun K x qual st f fd) (C : FnScope N ps (defScope st)) (len : ∀ y, (S.args y).length = ps.length)
    (hbody : ∀ (cdv : Value) (A : Around) (outer : List Env) (s : Shared) (H : Hp) (E : XK), Room k (A.deeper (envOfC qual (defScope st) s.heap.objs.size f cdv)) →
      ∃ t, PSs (cxOf CX0 P w K mg base N qual (defScope st) f cdv A outer s H E).nox (defBody st) t ∧
        ∀ y, S.pre y → WS K (S.mu y).length t (startR N (S.args y)) (S.mu y) { nx := fun _ mu => S.post y (.dat .non) (mu.take (S.mu y).length), rt := fun s mu => S.post y s mu }) : FnOk P w K mg base CX0 (k + 1) f fd ps (spG K S) := by
  refine F.ok C (fun vs H Q E ⟨y, M, ad, h1, h2, _⟩ => by rw [h2.length]; exact len y) (fun cdv A outer s H vs Q E hr h => ?_)
  obtain ⟨y, M, ad, h1, h2, h3, h4⟩ := h
  obtain ⟨t, ht, hw⟩ := hbody cdv A outer s H E hr
  refine ⟨t, ht, ?_⟩
  refine hw y h3 ⟨M, H, pub (Mx M ad) H, ad⟩ H ad (L2.start N vs) { nx := fun _ H' => Q .non H', rt := Q } h1.len (StOk.mk0 h1 h2) (fun σ' ρ' H' ad' mu' S' q => ?_) (fun v s H' ad' mu' R q => h4 v s H' ad' mu' q R.pre R.mu R.prot R.base R.val) (fun _ _ _ _ _ _ q => q.elim) (fun _ _ _ _ _ _ q => q.elim)
  have hl : (S.mu y).length ≤ ad'.length := by
    have := S'.len_n
    rw [show (Bg.mk M H (pub (Mx M ad) H) ad).ab = ad from rfl, h1.len] at this
    exact this
  obtain ⟨X, hs⟩ := S'.mu.cut (List.range (S.mu y).length) (fun i hi => by have := List.mem_range.mp hi; omega) List.nodup_range
  rw [map_range_take ad' 0 _ hl, map_range_take mu' (.lst []) _ (by rw [← S'.mu.len]; exact hl)] at X
  rw [map_range_take ad' 0 _ hl] at hs
  have hpre : ad'.take (S.mu y).length = ad := by rw [← h1.len]; exact S'.pre
  exact h4 .non (.dat .non) H' (ad'.take (S.mu y).length) (mu'.take (S.mu y).length) q (by rw [hpre]; exact List.take_length) X S'.prot (S'.base.trans hs) Rep.non
/-- the same for a def with defaults -/
theorem fun_okD {x qual : Str} {st : Stmt} {f : Addr} {fd : FuncData} {N ps : List Str} {k : Nat} {dvs : List V} (F : FunD K x qual (defArgs st) (defBody st) (defScope st) dvs [] f fd) (C : FnScope N ps (defScope st)) (len : ∀ y, (S.args y).length = ps.length)
    (hbody : ∀ (cdv : Value) (A : Around) (outer : List Env) (s : Shared) (H : Hp) (E : XK), Room k (A.deeper (envOfC qual (defScope st) s.heap.objs.size f cdv)) →
      ∃ t, PSs (cxOf CX0 P w K mg base N qual (defScope st) f cdv A outer s H E).nox (defBody st) t ∧
        ∀ y, S.pre y → WS K (S.mu y).length t (startR N (S.args y)) (S.mu y) { nx := fun _ mu => S.post y (.dat .non) (mu.take (S.mu y).length), rt := fun s mu => S.post y s mu }) : FnOk P w K mg base CX0 (k + 1) f fd ps (spG K S) := by
  refine F.ok (CX := CX0) C (fun vs H Q E ⟨y, M, ad, h1, h2, _⟩ => by rw [h2.length]; exact len y) (fun cdv A outer s H vs Q E hr h => ?_)
  obtain ⟨y, M, ad, h1, h2, h3, h4⟩ := h
  obtain ⟨t, ht, hw⟩ := hbody cdv A outer s H E hr
  refine ⟨t, ht.nox, ?_⟩
  refine hw y h3 ⟨M, H, pub (Mx M ad) H, ad⟩ H ad (L2.start N vs) { nx := fun _ H' => Q .non H', rt := Q } h1.len (StOk.mk0 h1 h2) (fun σ' ρ' H' ad' mu' S' q => ?_) (fun v s H' ad' mu' R q => h4 v s H' ad' mu' q R.pre R.mu R.prot R.base R.val) (fun _ _ _ _ _ _ q => q.elim) (fun _ _ _ _ _ _ q => q.elim)
  have hl : (S.mu y).length ≤ ad'.length := by
    have := S'.len_n
    rw [show (Bg.mk M H (pub (Mx M ad) H) ad).ab = ad from rfl, h1.len] at this
    exact this
  obtain ⟨X, hs⟩ := S'.mu.cut (List.range (S.mu y).length) (fun i hi => by have := List.mem_range.mp hi; omega) List.nodup_range
  rw [map_range_take ad' 0 _ hl, map_range_take mu' (.lst []) _ (by rw [← S'.mu.len]; exact hl)] at X
  rw [map_range_take ad' 0 _ hl] at hs
  have hpre : ad'.take (S.mu y).length = ad := by rw [← h1.len]; exact S'.pre
  exact h4 .non (.dat .non) H' (ad'.take (S.mu y).length) (mu'.take (S.mu y).length) q (by rw [hpre]; exact List.take_length) X S'.prot (S'.base.trans hs) Rep.non
end

section
variable {K : PySem.W.Frag} {ρ : Rho} {mu : List Ct} {Φ : SV → List Ct → Prop} {ta tb te tl to ti : TE} {t : TA} {γ : Type}
/-! ### calls -/
/-- data go in, data come out -/
theorem we_call {P : PSpec γ} {E : XK} (h : WA K t ρ mu fun ss mu' => ∃ x, ss = (P.args x).map .dat ∧ P.pre x ∧ ∀ d, P.post x d → Φ (.dat d) mu') : WE K (tCall (spG K P.S) [] E t) ρ mu Φ := fun g H ad σ Q S k =>
  h g H ad σ _ S fun vs ss H1 ad1 mu1 S1 hs ⟨x, e, hp, q⟩ => by
    subst e
    rw [List.append_nil]
    have em : ∀ b, Mx (Mx g.M ad1) [] b = Mx g.M ad1 b := fun b => by unfold Mx; simp
    have ef : Mx (Mx g.M ad1) [] = Mx g.M ad1 := funext em
    refine ⟨x, Mx g.M ad1, [], ⟨fun b hb => ?_, List.nodup_nil, fun _ z => (by cases z), rfl, fun i a c z => (by simp at z)⟩, by rw [ef]; exact SvsOk.of_dats hs.dats, hp, ?_⟩
    · cases z : H1 b with
      | some o => rfl
      | none => rw [S1.mu.free z] at hb; cases hb
    · rintro v s H' ad' mu' ⟨rfl, d, rfl, hd⟩ _ X hk hb hv
      have el : ad' = [] := List.length_eq_zero_iff.mp X.len
      subst el
      rw [ef] at hb hv
      have S2 : StOk K g H' ad1 mu1 σ ρ := by
        refine ⟨⟨fun b z => ?_, S1.mu.nd, S1.mu.out, S1.mu.len, fun i a c z1 z2 => ?_⟩, fun b z => ?_, S1.pre, S1.base.trans hb, S1.ln, fun i s z => ?_⟩
        · rw [hk b (mx_of.mpr (.inl z))]; exact S1.mu.fin b z
        · obtain ⟨o, q1, q2⟩ := S1.mu.ct i a c z1 z2
          exact ⟨o, by rw [hk a (mx_of.mpr (.inr (List.mem_of_getElem? z1)))]; exact q1, q2.mono hb⟩
        · rw [hk b (mx_of.mpr (.inl z))]; exact S1.prot b z
        · obtain ⟨v, q1, q2⟩ := S1.sl i s z
          exact ⟨v, q1, q2.mono hb List.take_length⟩
      exact k v (.dat d) H' ad1 mu1 S2 hv (q d hd)
def ren (sel : List Nat) : SV → SV
  | .dat d => .dat d
  | .ob i => .ob (sel.getD i 0)
def putAll (mu : List Ct) : List Nat → List Ct → List Ct
  | i :: is, c :: cs => putAll (mu.set i c) is cs
  | _, _ => mu
def backV (n m : Nat) (sel : List Nat) : SV → SV
  | .dat d => .dat d
  | .ob j => if j < n then .ob (sel.getD j 0) else .ob (m + (j - n))
theorem putAll_len : ∀ (sel : List Nat) (cs mu : List Ct), (putAll mu sel cs).length = mu.length
  | [], _, _ => by unfold putAll; rfl
  | _ :: _, [], _ => by unfold putAll; rfl
  | i :: is, c :: cs, mu => by rw [putAll, putAll_len is cs]; simp
theorem putAll_out : ∀ (sel : List Nat) (cs mu : List Ct) (i : Nat), i ∉ sel → (putAll mu sel cs)[i]? = mu[i]?
  | [], _, _, _, _ => by unfold putAll; rfl
  | _ :: _, [], _, _, _ => by unfold putAll; rfl
  | j :: is, c :: cs, mu, i, h => by
    rw [putAll, putAll_out is cs _ i fun z => h (List.mem_cons_of_mem _ z), List.getElem?_set_ne (fun e => h (by rw [e]; exact List.mem_cons_self))]
theorem putAll_in : ∀ (sel : List Nat) (cs mu : List Ct) (j i : Nat) (c : Ct), sel.Nodup → sel[j]? = some i → cs[j]? = some c → i < mu.length → (putAll mu sel cs)[i]? = some c
  | [], _, _, _, _, _, _, h, _, _ => by simp at h
  | _ :: _, [], _, _, _, _, _, _, h, _ => by simp at h
  | s :: is, c :: cs, mu, 0, i, d, nd, h1, h2, hl => by
    simp at h1 h2; subst h1; subst h2
    rw [putAll, putAll_out is cs _ s (List.nodup_cons.mp nd).1, List.getElem?_set_self hl]
  | s :: is, c :: cs, mu, j + 1, i, d, nd, h1, h2, hl => by
    rw [putAll]
    exact putAll_in is cs _ j i d (List.nodup_cons.mp nd).2 (by simpa using h1) (by simpa using h2) (by simpa using hl)
/-- some of the changing things go in -/
theorem we_callM {S : Spec γ} {E : XK} (h : WA K t ρ mu fun ss mu' => ∃ (x : γ) (sel : List Nat), ss = (S.args x).map (ren sel) ∧ sel.Nodup ∧ (sel.map fun (i : Nat) => mu'[i]?) = (S.mu x).map some ∧ (∀ i, .ob i ∈ S.args x → i < sel.length) ∧ S.pre x ∧
    ∀ s mc, S.post x s mc → Φ (backV sel.length mu'.length sel s) (putAll mu' sel mc ++ mc.drop sel.length)) : WE K (tCall (spG K S) [] E t) ρ mu Φ := fun g H ad σ Q St k =>
  h g H ad σ _ St fun vs ss H1 ad1 mu1 S1 hs ⟨x, sel, e, nd, hm, hob, hp, q⟩ => by
    rw [List.append_nil]
    have hsl : ∀ (j i : Nat), sel[j]? = some i → i < ad1.length ∧ ∃ c, mu1[i]? = some c ∧ (S.mu x)[j]? = some c := fun j i z => by
      have z1 : (sel.map fun (i : Nat) => mu1[i]?)[j]? = some (mu1[i]?) := by rw [List.getElem?_map, z]; rfl
      rw [hm, List.getElem?_map] at z1
      cases q : (S.mu x)[j]? with
      | none => rw [q] at z1; cases z1
      | some c =>
        rw [q] at z1
        have z2 : some c = mu1[i]? := (Option.some.inj z1)
        exact ⟨by rw [S1.mu.len]; exact (List.getElem?_eq_some_iff.mp z2.symm).1, c, z2.symm, rfl⟩
    have hsi : ∀ i ∈ sel, i < ad1.length := fun i hi => by
      obtain ⟨j, hj⟩ := List.getElem?_of_mem hi
      exact (hsl j i hj).1
    have hml : (S.mu x).length = sel.length := by
      have := congrArg List.length hm
      rw [List.length_map, List.length_map] at this; exact this.symm
    -- the addresses that go in
    have gi : ∀ i, i < ad1.length → ad1[i]? = some (ad1.getD i 0) := fun i hi => by
      rw [List.getD_eq_getElem?_getD, List.getElem?_eq_getElem hi]; rfl
    let as : List Addr := sel.map fun i => ad1.getD i 0
    let M' : Addr → Bool := fun b => g.M b || (decide (b ∈ ad1) && !decide (b ∈ as))
    have has : ∀ a ∈ as, a ∈ ad1 := fun a ha => by
      obtain ⟨i, hi, e⟩ := List.mem_map.mp ha
      exact e ▸ List.mem_of_getElem? (gi i (hsi i hi))
    have emx : ∀ b, Mx M' as b = Mx g.M ad1 b := fun b => by
      show ((g.M b || (decide (b ∈ ad1) && !decide (b ∈ as))) || decide (b ∈ as)) = (g.M b || decide (b ∈ ad1))
      by_cases z1 : b ∈ as
      · simp [z1, has b z1]
      · simp [z1]
    have ef : Mx M' as = Mx g.M ad1 := funext emx
    have asget : ∀ (j i : Nat), sel[j]? = some i → as[j]? = ad1[i]? := fun j i z => by
      show (sel.map fun i => ad1.getD i 0)[j]? = _
      rw [List.getElem?_map, z, gi i (hsl j i z).1]; rfl
    have asnd : as.Nodup := by
      refine List.pairwise_map.mpr (nd.imp_of_mem fun {i j} hi hj hne => ?_)
      intro e
      exact hne ((List.getElem?_inj (hsi i hi) S1.mu.nd).mp ((gi i (hsi i hi)).trans (e ▸ (gi j (hsi j hj)).symm)))
    have gM_as : ∀ a ∈ as, g.M a = false := fun a ha => S1.mu.out a (has a ha)
    refine ⟨x, M', as, ⟨fun b hb => ?_, asnd, fun a ha => ?_, by show (sel.map _).length = _; rw [List.length_map, hml], fun j a c z1 z2 => ?_⟩, ?_, hp, ?_⟩
    · cases z : H1 b with
      | some o => rfl
      | none =>
        have := S1.mu.free z
        rw [← emx, mx_of.mpr (.inl hb)] at this; cases this
    · show (g.M a || (decide (a ∈ ad1) && !decide (a ∈ as))) = false
      simp [gM_as a ha, ha]
    · cases zs : sel[j]? with
      | none =>
        have : as[j]? = none := by
          show (sel.map _)[j]? = none
          rw [List.getElem?_map, zs]; rfl
        rw [this] at z1; cases z1
      | some i =>
        obtain ⟨hi, c', z3, z4⟩ := hsl j i zs
        rw [z2] at z4; cases z4
        rw [asget j i zs] at z1
        obtain ⟨o, q1, q2⟩ := S1.mu.ct i a c z1 z3
        exact ⟨o, q1, by rw [ef]; exact q2⟩
    · rw [ef]
      have conv : ∀ (vs : List V) (ts : List SV), (∀ i, SV.ob i ∈ ts → i < sel.length) → SvsOk K (pub (Mx g.M ad1) H1) ad1 vs (ts.map (ren sel)) → SvsOk K (pub (Mx g.M ad1) H1) as vs ts := by
        intro vs ts
        induction ts generalizing vs with
        | nil => intro _ z; cases z; exact .nil
        | cons t0 ts ih =>
          intro ho z
          cases z with
          | cons z1 z2 =>
            refine .cons ?_ (ih _ (fun i hi => ho i (List.mem_cons_of_mem _ hi)) z2)
            cases t0 with
            | dat d => exact z1
            | ob j =>
              obtain ⟨a, q1, q2⟩ := z1
              have hj := ho j List.mem_cons_self
              have zj : sel[j]? = some (sel.getD j 0) := by rw [List.getD_eq_getElem?_getD, List.getElem?_eq_getElem hj]; rfl
              exact ⟨a, (asget j _ zj).trans q1, q2⟩
      exact conv vs _ hob (e ▸ hs)
    · rintro v s H' ad' mc hpost hpre X hk hb hv
      rw [ef] at hb
      have hasl : as.length = sel.length := List.length_map _
      have adl : ad' = as ++ ad'.drop sel.length := by
        have := List.take_append_drop as.length ad'
        rw [hpre, hasl] at this; exact this.symm
      have hmc : sel.length ≤ mc.length := by
        rw [← X.len, adl, List.length_append, hasl]; omega
      -- the new ones stand apart from all that was
      have newout : ∀ a ∈ ad'.drop sel.length, a ∉ ad1 ∧ g.M a = false := fun a ha => by
        have m1 : a ∈ ad' := List.mem_of_mem_drop ha
        have o1 : (g.M a || (decide (a ∈ ad1) && !decide (a ∈ as))) = false := X.out a m1
        have n1 : a ∉ as := fun z => by
          have := X.nd
          rw [adl, List.nodup_append] at this
          exact this.2.2 a z a ha rfl
        simp [n1] at o1
        exact ⟨o1.2, o1.1⟩
      let adn := ad1 ++ ad'.drop sel.length
      have emn : ∀ b, Mx M' ad' b = Mx g.M adn b := fun b => by
        show ((g.M b || (decide (b ∈ ad1) && !decide (b ∈ as))) || decide (b ∈ ad')) = (g.M b || decide (b ∈ ad1 ++ ad'.drop sel.length))
        have z0 : (b ∈ ad') = (b ∈ as ∨ b ∈ ad'.drop sel.length) := by
          rw [← List.mem_append, ← adl]
        by_cases z1 : b ∈ as
        · simp [z0, z1, has b z1]
        · simp [z0, z1, Bool.or_assoc]
      have efn : Mx M' ad' = Mx g.M adn := funext emn
      rw [efn] at hb hv
      have mun : (putAll mu1 sel mc ++ mc.drop sel.length).length = adn.length := by
        show _ = (ad1 ++ ad'.drop sel.length).length
        rw [List.length_append, List.length_append, putAll_len, S1.mu.len, List.length_drop, List.length_drop, X.len]
      have S2 : StOk K g H' adn (putAll mu1 sel mc ++ mc.drop sel.length) σ ρ := by
        refine ⟨⟨fun b z => ?_, ?_, fun a ha => ?_, mun.symm, fun i a c z1 z2 => ?_⟩, fun b z => ?_, take_app S1.pre, S1.base.trans hb, S1.ln, fun i s z => ?_⟩
        · rw [hk b (by show (g.M b || _) = true; rw [z]; rfl)]; exact S1.mu.fin b z
        · rw [List.nodup_append]
          refine ⟨S1.mu.nd, X.nd.sublist (List.drop_sublist _ _), fun a ha b hb' z => ?_⟩
          exact (newout b hb').1 (z ▸ ha)
        · rcases List.mem_append.mp ha with z | z
          · exact S1.mu.out a z
          · exact (newout a z).2
        · by_cases hi : i < ad1.length
          · rw [List.getElem?_append_left hi] at z1
            rw [List.getElem?_append_left (by rw [putAll_len, ← S1.mu.len]; exact hi)] at z2
            by_cases his : i ∈ sel
            · obtain ⟨j, hj⟩ := List.getElem?_of_mem his
              have hjl : j < sel.length := (List.getElem?_eq_some_iff.mp hj).1
              have zc : mc[j]? = some mc[j] := List.getElem?_eq_getElem (by omega)
              rw [putAll_in sel mc mu1 j i _ nd hj zc (by rw [← S1.mu.len]; exact hi)] at z2
              cases z2
              have za : ad'[j]? = some a := by
                rw [adl, List.getElem?_append_left (by rw [hasl]; exact hjl), asget j i hj]; exact z1
              obtain ⟨o, q1, q2⟩ := X.ct j a _ za zc
              exact ⟨o, q1, by rw [← efn]; exact q2⟩
            · rw [putAll_out sel mc mu1 i his] at z2
              obtain ⟨o, q1, q2⟩ := S1.mu.ct i a c z1 z2
              have na : a ∉ as := fun z => by
                obtain ⟨j, hj, e⟩ := List.mem_map.mp z
                have := (List.getElem?_inj hi S1.mu.nd).mp (z1.trans (e ▸ (gi j (hsi j hj)).symm))
                exact his (this ▸ hj)
              refine ⟨o, ?_, q2.mono hb⟩
              rw [hk a (by show (g.M a || (decide (a ∈ ad1) && !decide (a ∈ as))) = true; simp [na, List.mem_of_getElem? z1])]; exact q1
          · have hi' : ad1.length ≤ i := by omega
            rw [List.getElem?_append_right hi'] at z1
            rw [List.getElem?_append_right (by rw [putAll_len, ← S1.mu.len]; exact hi'), putAll_len, ← S1.mu.len] at z2
            rw [List.getElem?_drop] at z1 z2
            obtain ⟨o, q1, q2⟩ := X.ct _ a c z1 z2
            exact ⟨o, q1, by rw [← efn]; exact q2⟩
        · rw [hk b (by show (g.M b || _) = true; rw [z]; rfl)]; exact S1.prot b z
        · obtain ⟨v, q1, q2⟩ := S1.sl i s z
          exact ⟨v, q1, q2.mono hb (by show (ad1 ++ _).take _ = _; rw [List.take_append_of_le_length (Nat.le_refl _), List.take_length])⟩
      refine k v _ H' adn _ S2 ?_ (q s mc hpost)
      cases s with
      | dat d => exact hv
      | ob j =>
        obtain ⟨a, q1, q2⟩ := hv
        show SvOk K (pub (Mx g.M adn) H') adn v (if j < sel.length then SV.ob (sel.getD j 0) else SV.ob (mu1.length + (j - sel.length)))
        by_cases hj : j < sel.length
        · rw [if_pos hj]
          have zj : sel[j]? = some (sel.getD j 0) := by rw [List.getD_eq_getElem?_getD, List.getElem?_eq_getElem hj]; rfl
          refine ⟨a, ?_, q2⟩
          show (ad1 ++ _)[_]? = _
          rw [List.getElem?_append_left (hsl j _ zj).1, ← asget j _ zj]
          rw [adl, List.getElem?_append_left (by rw [hasl]; exact hj)] at q1
          exact q1
        · rw [if_neg hj]
          refine ⟨a, ?_, q2⟩
          show (ad1 ++ _)[_]? = _
          rw [← S1.mu.len, List.getElem?_append_right (Nat.le_add_right _ _), Nat.add_sub_cancel_left, List.getElem?_drop]
          rw [show sel.length + (j - sel.length) = j by omega]
          exact q1

/-- data go in and come out, a list that may change may go in to be read -/
def PSpec.L {γ : Type} (P : PSpec γ) : Spec γ := P.S
def lendC : Option Ct → Option D
  | some (.lst ds) => some (.lst ds)
  | _ => none
def lendD (mu : List Ct) : SV → Option D
  | .dat d => some d
  | .ob i => lendC (mu[i]?)
/-- no list in it -/
def D.atom : D → Bool
  | .non => true | .bl _ => true | .int _ => true | .str _ => true | _ => false
def D.flat : D → Bool
  | .tup ds => ds.all D.atom
  | d => d.atom
theorem Rep.atom_any {G G' : Hp} {v : V} {d : D} (ha : d.atom = true) (h : Rep K G v d) : Rep K G' v d := by
  cases h with
  | non => exact .non
  | bl b => exact .bl b
  | int i => exact .int i
  | str x => exact .str x
  | lst => cases ha
  | tup => cases ha
  | ktup => cases ha
  | scr => cases ha
  | any => cases ha
  | own => cases ha
theorem RepL.atom_any {G G' : Hp} : ∀ {vs : List V} {ds : List D}, ds.all D.atom = true → RepL K G vs ds → RepL K G' vs ds
  | _, _, _, .nil => .nil
  | _, _, ha, .cons h r => by
    simp only [List.all_cons, Bool.and_eq_true] at ha
    exact .cons (h.atom_any ha.1) (r.atom_any ha.2)
theorem we_callL {P : PSpec γ} {E : XK} (h : WA K t ρ mu fun ss mu' => ∃ x, ss.map (lendD mu') = (P.args x).map some ∧ P.pre x ∧ ∀ d, P.post x d → d.flat = true ∧ Φ (.dat d) mu') : WE K (tCall (spG K P.L) [] E t) ρ mu Φ := fun g H ad σ Q S k =>
  h g H ad σ _ S fun vs ss H1 ad1 mu1 S1 hs ⟨x, e, hp, q⟩ => by
    rw [List.append_nil]
    let lent (b : Addr) : Bool := @decide (∃ i, SV.ob i ∈ ss ∧ ad1[i]? = some b) (Classical.propDecidable _)
    let M' : Addr → Bool := fun b => g.M b || (decide (b ∈ ad1) && !lent b)
    have em : ∀ b, Mx M' [] b = M' b := fun b => by unfold Mx; simp
    have ef : Mx M' [] = M' := funext em
    have up : ∀ b, M' b = true → Mx g.M ad1 b = true := fun b hb => by
      have hb : (g.M b || (decide (b ∈ ad1) && !lent b)) = true := hb
      rcases Bool.or_eq_true _ _ |>.mp hb with z | z
      · exact mx_of.mpr (.inl z)
      · rw [Bool.and_eq_true, decide_eq_true_iff] at z
        exact mx_of.mpr (.inr z.1)
    have notM : ∀ (i : Nat) (a : Addr), SV.ob i ∈ ss → ad1[i]? = some a → M' a = false := fun i a hi ha => by
      show (g.M a || (decide (a ∈ ad1) && !lent a)) = false
      have h1 := S1.mu.out a (List.mem_of_getElem? ha)
      have h2 : lent a = true := @decide_eq_true _ (Classical.propDecidable _) ⟨i, hi, ha⟩
      rw [h1, h2]; simp
    have lst : ∀ (i : Nat) (a : Addr), SV.ob i ∈ ss → ad1[i]? = some a → ∃ ds vs, mu1[i]? = some (.lst ds) ∧ H1 a = some (.lst vs) ∧ RepL K (pub (Mx g.M ad1) H1) vs ds := fun i a hi ha => by
      have : lendD mu1 (.ob i) ∈ (P.args x).map some := e ▸ List.mem_map.mpr ⟨_, hi, rfl⟩
      obtain ⟨d, _, hd⟩ := List.mem_map.mp this
      have hd : some d = lendC (mu1[i]?) := hd
      cases hm : mu1[i]? with
      | none => rw [hm] at hd; cases hd
      | some c =>
        rw [hm] at hd
        obtain ⟨o, h3, h4⟩ := S1.mu.ct i a c ha hm
        cases c with
        | lst ds =>
          obtain ⟨vs, h5, h6⟩ := h4
          subst h5
          exact ⟨ds, vs, rfl, h3, h6⟩
        | dK f n => cases hd
        | dT f n => cases hd
        | «at» b ds => cases hd
    have conv : ∀ (vs : List V) (ts : List SV) (ds : List D), (∀ s ∈ ts, s ∈ ss) → ts.map (lendD mu1) = ds.map some → SvsOk K (pub (Mx g.M ad1) H1) ad1 vs ts → RepL K (pub M' H1) vs ds := by
      intro vs ts
      induction ts generalizing vs with
      | nil =>
        intro ds _ he z
        cases z
        cases ds with
        | nil => exact .nil
        | cons => cases he
      | cons t0 ts ih =>
        intro ds ho he z
        cases ds with
        | nil => cases he
        | cons d ds =>
          rw [List.map_cons, List.map_cons] at he
          injection he with he1 he2
          cases z with
          | cons z1 z2 =>
            refine .cons ?_ (ih _ ds (fun s hs => ho s (List.mem_cons_of_mem _ hs)) he2 z2)
            cases t0 with
            | dat d0 => cases he1; exact Rep.mono (pub_up up) z1
            | ob i =>
              obtain ⟨a, ha, rfl⟩ := z1
              obtain ⟨ds', vs', h1, h2, h3⟩ := lst i a (ho _ List.mem_cons_self) ha
              have he1 : lendC (mu1[i]?) = some d := he1
              rw [h1] at he1
              cases he1
              exact .lst (by rw [pub_of (notM i a (ho _ List.mem_cons_self) ha)]; exact h2) (h3.mono (pub_up up))
    refine ⟨x, M', [], ⟨fun b hb => ?_, List.nodup_nil, fun _ z => (by cases z), rfl, fun i a c z => (by simp at z)⟩, ?_, hp, ?_⟩
    · cases z : H1 b with
      | some o => rfl
      | none =>
        have := S1.mu.free z
        rw [up b hb] at this; cases this
    · rw [ef]
      exact SvsOk.of_dats (conv vs ss _ (fun s h => h) e hs)
    · rintro v s H' ad' mu' ⟨rfl, d, rfl, hd⟩ _ X hk hb hv
      have el : ad' = [] := List.length_eq_zero_iff.mp X.len
      subst el
      rw [ef] at hb hv
      obtain ⟨hfl, hq⟩ := q d hd
      have same : Same (pub (Mx g.M ad1) H1) (pub (Mx g.M ad1) H') := fun b o z => by
        have hb1 : Mx g.M ad1 b = false := by
          cases c : Mx g.M ad1 b with
          | false => rfl
          | true => rw [pub_none c] at z; cases z
        rw [pub_of hb1] at z ⊢
        have hM : M' b = false := by
          cases c : M' b with
          | false => rfl
          | true => rw [up b c] at hb1; cases hb1
        have := hb b o (by rw [pub_of hM]; exact z)
        rw [pub_of hM] at this
        exact this
      have keep : ∀ (i : Nat) (a : Addr), ad1[i]? = some a → H' a = H1 a := fun i a ha => by
        cases c : M' a with
        | true => exact hk a c
        | false =>
          have hl : lent a = true := by
            have c : (g.M a || (decide (a ∈ ad1) && !lent a)) = false := c
            cases z : lent a with
            | true => rfl
            | false => rw [z] at c; simp [List.mem_of_getElem? ha] at c
          obtain ⟨j, hj, hja⟩ := @of_decide_eq_true _ (Classical.propDecidable _) hl
          obtain ⟨ds, vs', h1, h2, h3⟩ := lst j a hj hja
          have := hb a _ (by rw [pub_of c]; exact h2)
          rw [pub_of c] at this
          rw [this, h2]
      have S2 : StOk K g H' ad1 mu1 σ ρ := by
        refine ⟨⟨fun b z => ?_, S1.mu.nd, S1.mu.out, S1.mu.len, fun i a c z1 z2 => ?_⟩, fun b z => ?_, S1.pre, S1.base.trans same, S1.ln, fun i s z => ?_⟩
        · rw [hk b (by show (g.M b || _) = true; rw [z]; rfl)]; exact S1.mu.fin b z
        · obtain ⟨o, q1, q2⟩ := S1.mu.ct i a c z1 z2
          exact ⟨o, by rw [keep i a z1]; exact q1, q2.mono same⟩
        · rw [hk b (by show (g.M b || _) = true; rw [z]; rfl)]; exact S1.prot b z
        · obtain ⟨v, q1, q2⟩ := S1.sl i s z
          exact ⟨v, q1, q2.mono same List.take_length⟩
      refine k v (.dat d) H' ad1 mu1 S2 ?_ hq
      show Rep K (pub (Mx g.M ad1) H') v d
      have hv : Rep K (pub M' H') v d := hv
      by_cases ha : d.atom = true
      · exact hv.atom_any ha
      · cases d with
        | tup ds =>
          obtain ⟨a, ws, rfl, e2, r⟩ := Rep.tup_inv hv
          refine .tup ?_ (r.atom_any hfl)
          have cM : M' a = false := by
            cases c : M' a with
            | false => rfl
            | true => rw [pub_none c] at e2; cases e2
          rw [pub_of cM] at e2
          rw [pub_of]
          · exact e2
          · cases c : Mx g.M ad1 a with
            | false => rfl
            | true =>
              rcases mx_of.mp c with z | z
              · have cM : (g.M a || (decide (a ∈ ad1) && !lent a)) = false := cM
                rw [z] at cM; cases cM
              · obtain ⟨i, hi⟩ := List.getElem?_of_mem z
                have hl : lent a = true := by
                  have c : (g.M a || (decide (a ∈ ad1) && !lent a)) = false := cM
                  cases z2 : lent a with
                  | true => rfl
                  | false => rw [z2] at c; simp [z] at c
                obtain ⟨j, hj, hja⟩ := @of_decide_eq_true _ (Classical.propDecidable _) hl
                obtain ⟨ds', vs', h1, h2, h3⟩ := lst j a hj hja
                rw [keep j a hja, h2] at e2
                cases e2
        | non => exact absurd rfl ha
        | bl b => exact absurd rfl ha
        | int i => exact absurd rfl ha
        | str z => exact absurd rfl ha
        | lst ds => exact absurd hfl (by simp [D.flat, D.atom])
        | ktup ss => exact absurd hfl (by simp [D.flat, D.atom])
        | scr ss => exact absurd hfl (by simp [D.flat, D.atom])
        | any => exact absurd hfl (by simp [D.flat, D.atom])
        | own a => exact absurd hfl (by simp [D.flat, D.atom])
end
end LP
end

section
set_option maxHeartbeats 2000000
/-! LpE: built-ins, methods, dicts. -/
namespace LP
open PySem PySem.Spec PyProof.Rows L2

section
variable {K : PySem.W.Frag} {ρ : Rho} {mu : List Ct} {Φ : SV → List Ct → Prop} {ta tb te tl to ti : TE} {t : TA}
theorem we_cB {r : List V → Hp → VK → Prop} (h : WA K t ρ mu fun ss mu1 => WC K r ss ρ mu1 Φ) : WE K (tCB r t) ρ mu Φ := fun g H ad σ Q S k =>
  h g H ad σ _ S fun vs ss H1 ad1 mu1 S1 hs h1 => h1 g H1 ad1 σ vs Q S1 hs k
theorem one_sv {G : Hp} {ad : List Addr} {vs : List V} {s : SV} (h : SvsOk K G ad vs [s]) : ∃ v, vs = [v] ∧ SvOk K G ad v s := by
  cases h with
  | cons h r => cases r; exact ⟨_, rfl, h⟩
theorem two_sv {G : Hp} {ad : List Addr} {vs : List V} {s t : SV} (h : SvsOk K G ad vs [s, t]) : ∃ v u, vs = [v, u] ∧ SvOk K G ad v s ∧ SvOk K G ad u t := by
  cases h with
  | cons h r => obtain ⟨u, rfl, h2⟩ := one_sv r; exact ⟨_, _, rfl, h, h2⟩
/-! ### len, max, min, sum, int, str, list, dict -/
def rLenSq (K : PySem.W.Frag) : List V → Hp → VK → Prop := fun xs H Q => ∃ p ys, xs = [.ref p] ∧ (SqL K H p ys ∨ SqT K H p ys) ∧ Q (.int ys.length) H
theorem wc_len {x : SV} {ds : List D} (hx : IsL mu x ds) (q : Φ (.dat (.int (ds.length : Int))) mu) : WC K (fun xs H Q => ∃ p ys, xs = [.ref p] ∧ (SqL K H p ys ∨ SqT K H p ys) ∧ Q (.int ys.length) H) [x] ρ mu Φ := fun g H ad σ vs Q S hs k => by
  obtain ⟨v, rfl, hv⟩ := one_sv hs
  obtain ⟨a, vs, rfl, e2, r⟩ := hx.got S hv
  exact ⟨a, vs, rfl, .inl (SqL.of e2), k _ _ _ _ _ S (sv_d (Rep.int _)) (by rw [r.length]; exact q)⟩
theorem wc_lenC {ns : List Int} (q : Φ (.dat (.int (ns.length : Int))) mu) : WC K (fun xs H Q => ∃ p ys, xs = [.ref p] ∧ (SqL K H p ys ∨ SqT K H p ys) ∧ Q (.int ys.length) H) [.dat (.scr ns)] ρ mu Φ := fun g H ad σ vs Q S hs k => by
  obtain ⟨v, rfl, hv⟩ := one_sv hs
  obtain ⟨a, rfl, e2⟩ := Rep.scr_inv hv
  exact ⟨a, _, rfl, .inl (pub_same.seq e2), k _ _ _ _ _ S (sv_d (Rep.int _)) (by rw [List.length_map]; exact q)⟩
theorem wc_max2 {i j : Int} (q : Φ (.dat (.int (if j > i then j else i))) mu) : WC K (fun xs H Q => ∃ i j, xs = [.int i, .int j] ∧ Q (.int (if j > i then j else i)) H) [.dat (.int i), .dat (.int j)] ρ mu Φ := fun g H ad σ vs Q S hs k =>
  ⟨i, j, ints2 hs, k _ _ _ _ _ S (sv_d (Rep.int _)) q⟩
theorem wc_min2 {i j : Int} (q : Φ (.dat (.int (if j < i then j else i))) mu) : WC K (fun xs H Q => ∃ i j, xs = [.int i, .int j] ∧ Q (.int (if j < i then j else i)) H) [.dat (.int i), .dat (.int j)] ρ mu Φ := fun g H ad σ vs Q S hs k =>
  ⟨i, j, ints2 hs, k _ _ _ _ _ S (sv_d (Rep.int _)) q⟩
theorem isl_ints {g : Bg} {H : Hp} {ad : List Addr} {σ : L2.St} {x : SV} {v : V} {ns : List Int} (h : IsL mu x (ns.map D.int)) (S : StOk K g H ad mu σ ρ) (hv : SvOk K (pub (Mx g.M ad) H) ad v x) : ∃ a, v = .ref a ∧ H a = some (.lst (ns.map V.int)) := by
  obtain ⟨a, vs, e1, e2, r⟩ := h.got S hv
  exact ⟨a, e1, by rw [e2, r.ints_inv]⟩
theorem wc_sum {x : SV} {ns : List Int} (hx : IsL mu x (ns.map D.int)) (q : Φ (.dat (.int ns.sum)) mu) : WC K (rSum K) [x] ρ mu Φ := fun g H ad σ vs Q S hs k => by
  obtain ⟨v, rfl, hv⟩ := one_sv hs
  obtain ⟨a, rfl, e⟩ := isl_ints hx S hv
  exact ⟨a, ns, rfl, SqL.of e, k _ _ _ _ _ S (sv_d (Rep.int _)) q⟩
theorem wc_max {x : SV} {ns : List Int} (hx : IsL mu x (ns.map D.int)) (h0 : ns ≠ []) (q : ∀ m, m ∈ ns → (∀ y ∈ ns, y ≤ m) → Φ (.dat (.int m)) mu) : WC K (rMax K) [x] ρ mu Φ := fun g H ad σ vs Q S hs k => by
  obtain ⟨v, rfl, hv⟩ := one_sv hs
  obtain ⟨a, rfl, e⟩ := isl_ints hx S hv
  exact ⟨a, ns, rfl, SqL.of e, List.length_pos_iff.mpr h0, fun m h1 h2 => k _ _ _ _ _ S (sv_d (Rep.int _)) (q m h1 h2)⟩
theorem wc_intB {b : Bool} (q : Φ (.dat (.int (if b = true then 1 else 0))) mu) : WC K (fun xs H Q => (∃ i, xs = [.int i] ∧ Q (.int i) H) ∨ ∃ k, xs = [.bl k] ∧ Q (.int (if k then 1 else 0)) H) [.dat (.bl b)] ρ mu Φ := fun g H ad σ vs Q S hs k => by
  obtain ⟨v, rfl, hv⟩ := one_sv hs
  exact .inr ⟨b, by rw [Rep.bl_inv hv], k _ _ _ _ _ S (sv_d (Rep.int _)) q⟩
theorem wc_str {i : Int} (h : i.natAbs ≤ 1000000000) (q : Φ (.dat (.str (toString i))) mu) : WC K (fun xs H Q => ∃ i, xs = [.int i] ∧ i.natAbs.log2 < 1920 ∧ Q (.str (toString i)) H) [.dat (.int i)] ρ mu Φ := fun g H ad σ vs Q S hs k =>
  ⟨i, ints1 hs, by
    by_cases z : i.natAbs = 0
    · rw [z]; decide
    · refine (Nat.log2_lt z).mpr ?_
      exact Nat.lt_of_le_of_lt h (by decide +kernel), k _ _ _ _ _ S (sv_d (Rep.str _)) q⟩
theorem wc_list {x : SV} {ds : List D} (hx : IsL mu x ds) (q : Φ (.dat (.lst ds)) mu) : WC K (fun xs H Q => ∃ p ys, xs = [.ref p] ∧ (SqL K H p ys ∨ SqT K H p ys) ∧ ∀ l, H l = none → Q (.ref l) (upd H l (.lst ys))) [x] ρ mu Φ := fun g H ad σ vs Q S hs k => by
  obtain ⟨v, rfl, hv⟩ := one_sv hs
  obtain ⟨a, vs, rfl, e2, r⟩ := hx.got S hv
  refine ⟨a, vs, rfl, .inl (SqL.of e2), fun l hl => ?_⟩
  obtain ⟨S2, e4, s2⟩ := S.alloc (o := .lst vs) hl
  exact k _ _ _ _ _ S2 (sv_d (Rep.lst (by rw [e4]; exact upd_same) (r.mono s2))) q
theorem wc_listM {x : SV} {ds : List D} (hx : IsL mu x ds) (q : Φ (.ob mu.length) (mu ++ [.lst ds])) : WC K (fun xs H Q => ∃ p ys, xs = [.ref p] ∧ (SqL K H p ys ∨ SqT K H p ys) ∧ ∀ l, H l = none → Q (.ref l) (upd H l (.lst ys))) [x] ρ mu Φ := fun g H ad σ vs Q S hs k => by
  obtain ⟨v, rfl, hv⟩ := one_sv hs
  obtain ⟨a, vs, rfl, e2, r⟩ := hx.got S hv
  refine ⟨a, vs, rfl, .inl (SqL.of e2), fun l hl => ?_⟩
  obtain ⟨S2, e4⟩ := S.allocM (o := .lst vs) (c := .lst ds) hl ⟨_, rfl, r⟩
  exact k _ _ _ _ _ S2 (sv_new S.mu.len) q

/-! ### in, not in -/
theorem eqv_str (a b : Str) : eqV (.str a) (.str b) = decide (a = b) := by
  by_cases h : a = b
  · subst h; simp [eqV]
  · simp [eqV, h]
theorem inv_strs (x : Str) (ss : List Str) : inV (.str x) (ss.map V.str) = decide (x ∈ ss) := by
  unfold inV
  induction ss with
  | nil => simp
  | cons y r ih =>
    rw [List.map_cons, List.any_cons, ih, eqv_str]
    by_cases h : y = x
    · subst h; simp
    · have : ¬ x = y := fun e => h e.symm
      simp [h, this]
theorem flat_strs (ss : List Str) : (ss.map V.str).all flatV = true := by
  rw [List.all_eq_true]
  intro v hv
  obtain ⟨s, _, rfl⟩ := List.mem_map.mp hv
  rfl
theorem wr_inK {x : Str} {ss : List Str} (q : Φ (.dat (.bl (decide (x ∈ ss)))) mu) : WR K (rIn K false) (.dat (.str x)) (.dat (.ktup ss)) ρ mu Φ := fun b H ad σ vx vy Q S hx hy k => by
  obtain ⟨a, rfl, e⟩ := Rep.ktup_inv hy
  refine ⟨a, _, rfl, .inr e.sq, by rw [hx.str_inv]; rfl, flat_strs ss, ?_⟩
  rw [hx.str_inv, inv_strs]
  exact k _ _ _ _ _ S (sv_d (Rep.bl _)) q
theorem wr_niK {x : Str} {ss : List Str} (q : Φ (.dat (.bl (!decide (x ∈ ss)))) mu) : WR K (rIn K true) (.dat (.str x)) (.dat (.ktup ss)) ρ mu Φ := fun b H ad σ vx vy Q S hx hy k => by
  obtain ⟨a, rfl, e⟩ := Rep.ktup_inv hy
  refine ⟨a, _, rfl, .inr e.sq, by rw [hx.str_inv]; rfl, flat_strs ss, ?_⟩
  rw [hx.str_inv, inv_strs]
  exact k _ _ _ _ _ S (sv_d (Rep.bl _)) q
theorem wr_niL {x : Str} {ss : List Str} {y : SV} (hy' : IsL mu y (ss.map D.str)) (q : Φ (.dat (.bl (!decide (x ∈ ss)))) mu) : WR K (rIn K true) (.dat (.str x)) y ρ mu Φ := fun b H ad σ vx vy Q S hx hy k => by
  obtain ⟨a, vs, rfl, e2, r⟩ := hy'.got S hy
  have e := r.strs_inv
  subst e
  refine ⟨a, _, rfl, .inl (SqL.of e2), by rw [hx.str_inv]; rfl, flat_strs ss, ?_⟩
  rw [hx.str_inv, inv_strs]
  exact k _ _ _ _ _ S (sv_d (Rep.bl _)) q
/-! ### == and != of lists -/
mutual
def D.py : D → PyData
  | .non => .none
  | .bl b => .bool b
  | .int i => .int i
  | .str s => .str s
  | .lst ds => .list (D.pys ds)
  | .tup ds => .tuple (D.pys ds)
  | .ktup _ => .none
  | .scr _ => .none
  | .any => .none
  | .own _ => .none
def D.pys : List D → List PyData
  | [] => []
  | d :: ds => d.py :: D.pys ds
end
mutual
def D.plain : D → Bool
  | .non => true
  | .bl _ => true
  | .int _ => true
  | .str _ => true
  | .lst ds => D.plains ds
  | .tup ds => D.plains ds
  | .ktup _ => false
  | .scr _ => false
  | .any => false
  | .own _ => false
def D.plains : List D → Bool
  | [] => true
  | d :: ds => d.plain && D.plains ds
end
mutual
theorem Rep.dp {G : Hp} : ∀ {v : V} {d : D}, d.plain = true → Rep K G v d → Dp K G v d.py
  | _, _, _, .non => .non
  | _, _, _, .bl b => .bl b
  | _, _, _, .int i => .int i
  | _, _, _, .str x => .str x
  | _, _, hp, .lst h r => .lst (SqL.of h) (RepL.dps (by simpa [D.plain] using hp) r)
  | _, _, hp, .tup h r => .tup (SqT.of h) (RepL.dps (by simpa [D.plain] using hp) r)
  | _, _, hp, .ktup h => by simp [D.plain] at hp
  | _, _, hp, .scr h => by simp [D.plain] at hp
  | _, _, hp, .any v => by simp [D.plain] at hp
  | _, .own _, hp, _ => by simp [D.plain] at hp
theorem RepL.dps {G : Hp} : ∀ {vs : List V} {ds : List D}, D.plains ds = true → RepL K G vs ds → DpAll K G vs (D.pys ds)
  | _, _, _, .nil => .nil
  | _, _, hp, .cons h r => by
    simp only [D.plains, Bool.and_eq_true] at hp
    exact .cons (Rep.dp hp.1 h) (RepL.dps hp.2 r)
end
/-- xs != [] -/
theorem isl_rep {g : Bg} {H : Hp} {ad : List Addr} {σ : L2.St} {x : SV} {v : V} {ds : List D} (h : IsL mu x ds) (S : StOk K g H ad mu σ ρ) (hv : SvOk K (pub (Mx g.M ad) H) ad v x) : Rep K H v (.lst ds) := by
  obtain ⟨a, vs, rfl, e2, r⟩ := h.got S hv
  exact .lst e2 (r.mono pub_same)
theorem dp_mono {G G' : Hp} (e : Same G G') {v : V} {d : D} (hp : d.plain = true) (h : Rep K G v d) : Dp K G' v d.py := Rep.dp hp (h.mono e)
theorem wr_neD {x y : SV} {ds es : List D} (hx' : IsL mu x ds) (hy' : IsL mu y es) (p1 : D.plains ds = true) (p2 : D.plains es = true) (s1 : SeqAt.shaped (D.lst ds).py = true) (s2 : SeqAt.shaped (D.lst es).py = true)
    (q : Φ (.dat (.bl (!PyData.eqv (D.lst ds).py (D.lst es).py))) mu) : WR K (rNeD K) x y ρ mu Φ := fun b H ad σ vx vy Q S hx hy k => by
  exact ⟨_, _, Rep.dp (by simpa [D.plain] using p1) (isl_rep hx' S hx), Rep.dp (by simpa [D.plain] using p2) (isl_rep hy' S hy), s1, s2, k _ _ _ _ _ S (sv_d (Rep.bl _)) q⟩

/-! ### methods -/
/-- xs.append(e) -/
theorem we_append (h : WE K to ρ mu fun s mu1 => ∃ m ds0, s = .ob m ∧ mu1[m]? = some (.lst ds0) ∧ WA K t ρ mu1 fun ss mu2 => ∃ x ds, ss = [x] ∧ mu2[m]? = some (.lst ds) ∧ ds.length < 1000000 ∧ Φ (.dat .non) (mu2.set m (.lst (ds ++ [x.toD])))) :
    WE K (tBM K "list" rAppend to t) ρ mu Φ := fun g H ad σ Q S k =>
  h g H ad σ _ S fun v s H1 ad1 mu1 S1 hv ⟨m, ds0, e, hm, h1⟩ => by
    subst e
    obtain ⟨a, ha, rfl⟩ := hv
    obtain ⟨o, q1, vs0, q2, q3⟩ := S1.mu.ct m a _ ha hm
    subst q2
    refine ⟨.inl ⟨rfl, _, SqL.of q1⟩, h1 (g.here H1 ad1) H1 ad1 σ _ S1.here fun vs ss H2 ad2 mu2 S2 hs ⟨x, ds, e, hm2, hl, q⟩ => ?_⟩
    subst e
    have S3 := S1.back S2
    have ha2 := take_get S2.pre ha
    obtain ⟨o, r1, vs1, r2, r3⟩ := S3.mu.ct m a _ ha2 hm2
    subst r2
    obtain ⟨u, rfl, hu⟩ := one_sv hs
    obtain ⟨S4, e4⟩ := S3.change (o := .lst (vs1 ++ [u])) (c := .lst (ds ++ [x.toD])) ha2 ⟨_, rfl, r3.append (.cons hu.toD .nil)⟩
    exact ⟨a, vs1, u, rfl, rfl, r1, by rw [r3.length]; exact Nat.lt_of_lt_of_le hl (by decide), k _ _ _ _ _ S4 (sv_d Rep.non) q⟩
/-- a new list whose address is known -/
theorem we_lstA (h : ∀ a : Addr, Φ (.dat (.own a)) (mu ++ [.at a []])) : WE K (tLst tNil) ρ mu Φ := fun g H ad σ Q S k => ⟨by decide, fun p hp => by
    obtain ⟨S2, e2⟩ := S.allocM (o := .lst []) (c := .at p []) hp ⟨rfl, [], rfl, .nil⟩
    exact k _ _ _ _ _ S2 (sv_d (Rep.own p)) (h p)⟩
theorem we_appendA (h : WE K to ρ mu fun s mu1 => ∃ m a ds0, s = .dat (.own a) ∧ mu1[m]? = some (.at a ds0) ∧ WA K t ρ mu1 fun ss mu2 => ∃ x ds, ss = [x] ∧ mu2[m]? = some (.at a ds) ∧ ds.length < 1000000 ∧ Φ (.dat .non) (mu2.set m (.at a (ds ++ [x.toD])))) :
    WE K (tBM K "list" rAppend to t) ρ mu Φ := fun g H ad σ Q S k =>
  h g H ad σ _ S fun v s H1 ad1 mu1 S1 hv ⟨m, a, ds0, e, hm, h1⟩ => by
    subst e
    have ev : v = .ref a := by cases (show Rep K _ v (.own a) from hv); rfl
    subst ev
    have hml : m < ad1.length := by rw [S1.mu.len]; exact (List.getElem?_eq_some_iff.mp hm).1
    obtain ⟨o, q1, ea, vs0, q2, q3⟩ := S1.mu.ct m _ _ (List.getElem?_eq_getElem hml) hm
    have ha : ad1[m]? = some a := by rw [List.getElem?_eq_getElem hml, ea]
    rw [ea] at q1
    subst q2
    refine ⟨.inl ⟨rfl, _, SqL.of q1⟩, h1 (g.here H1 ad1) H1 ad1 σ _ S1.here fun vs ss H2 ad2 mu2 S2 hs ⟨x, ds, e, hm2, hl, q⟩ => ?_⟩
    subst e
    have S3 := S1.back S2
    have ha2 := take_get S2.pre ha
    obtain ⟨o, r1, _, vs1, r2, r3⟩ := S3.mu.ct m a _ ha2 hm2
    subst r2
    obtain ⟨u, rfl, hu⟩ := one_sv hs
    obtain ⟨S4, e4⟩ := S3.change (o := .lst (vs1 ++ [u])) (c := .at a (ds ++ [x.toD])) ha2 ⟨rfl, _, rfl, r3.append (.cons hu.toD .nil)⟩
    exact ⟨a, vs1, u, rfl, rfl, r1, by rw [r3.length]; exact Nat.lt_of_lt_of_le hl (by decide), k _ _ _ _ _ S4 (sv_d Rep.non) q⟩
/-- xs.extend(ys) -/
theorem we_extend (h : WE K to ρ mu fun s mu1 => ∃ m ds0, s = .ob m ∧ mu1[m]? = some (.lst ds0) ∧ WA K t ρ mu1 fun ss mu2 => ∃ es ds, ss = [.dat (.lst es)] ∧ mu2[m]? = some (.lst ds) ∧ ds.length + es.length ≤ 1000000 ∧ Φ (.dat .non) (mu2.set m (.lst (ds ++ es)))) :
    WE K (tBM K "list" rExtend to t) ρ mu Φ := fun g H ad σ Q S k =>
  h g H ad σ _ S fun v s H1 ad1 mu1 S1 hv ⟨m, ds0, e, hm, h1⟩ => by
    subst e
    obtain ⟨a, ha, rfl⟩ := hv
    obtain ⟨o, q1, vs0, q2, q3⟩ := S1.mu.ct m a _ ha hm
    subst q2
    refine ⟨.inl ⟨rfl, _, SqL.of q1⟩, h1 (g.here H1 ad1) H1 ad1 σ _ S1.here fun vs ss H2 ad2 mu2 S2 hs ⟨es, ds, e, hm2, hl, q⟩ => ?_⟩
    subst e
    have S3 := S1.back S2
    have ha2 := take_get S2.pre ha
    obtain ⟨o, r1, vs1, r2, r3⟩ := S3.mu.ct m a _ ha2 hm2
    subst r2
    obtain ⟨u, rfl, hu⟩ := one_sv hs
    obtain ⟨b, ws, rfl, w1, w2⟩ := Rep.lst_inv hu
    obtain ⟨S4, e4⟩ := S3.change (o := .lst (vs1 ++ ws)) (c := .lst (ds ++ es)) ha2 ⟨_, rfl, r3.append w2⟩
    exact ⟨a, b, vs1, ws, rfl, rfl, r1, pub_same _ _ w1, by rw [r3.length, w2.length]; exact Nat.le_trans hl (by decide), k _ _ _ _ _ S4 (sv_d Rep.non) q⟩
/-- t.index(x), a tuple of the top -/
theorem we_kindex (h : WE K to ρ mu fun s mu1 => ∃ ss, s = .dat (.ktup ss) ∧ WA K t ρ mu1 fun xs mu2 => ∃ z j, xs = [.dat (.str z)] ∧ ss[j]? = some z ∧ (∀ m, m < j → ss[m]? ≠ some z) ∧ Φ (.dat (.int (j : Nat))) mu2) :
    WE K (tBM K "tuple" (fun x xs H Q => ∃ p, ∃ ys : List Str, ∃ z j, x = .ref p ∧ xs = [.str z] ∧ SqT K H p (ys.map V.str) ∧ ys[j]? = some z ∧ (∀ m, m < j → ys[m]? ≠ some z) ∧ Q (.int (j : Nat)) H) to t) ρ mu Φ := fun g H ad σ Q S k =>
  h g H ad σ _ S fun v s H1 ad1 mu1 S1 hv ⟨ss, e, h1⟩ => by
    subst e
    obtain ⟨a, rfl, hk⟩ := Rep.ktup_inv hv
    refine ⟨.inr (.inl ⟨rfl, ?_⟩), h1 g H1 ad1 σ _ S1 fun vs xs H2 ad2 mu2 S2 hs ⟨z, j, e, hj, hn, q⟩ => ?_⟩
    · obtain ⟨o, its, n, q1, q2, q3, _⟩ := hk
      exact ⟨o, q1, q2, q3⟩
    · subst e
      obtain ⟨u, rfl, hu⟩ := one_sv hs
      exact ⟨a, ss, z, j, rfl, by rw [Rep.str_inv hu], hk.sq, hj, hn, k _ _ _ _ _ S2 (sv_d (Rep.int _)) q⟩
/-- xs.index(n), a list of ints -/
theorem we_lindex (h : WE K to ρ mu fun s mu1 => ∃ ns : List Int, s = .dat (.lst (ns.map D.int)) ∧ WA K t ρ mu1 fun xs mu2 => ∃ z j, xs = [.dat (.int z)] ∧ ns[j]? = some z ∧ (∀ (m : Nat), m < j → ns[m]? ≠ some z) ∧ Φ (.dat (.int (j : Nat))) mu2) :
    WE K (tBM K "list" (rIndex K) to t) ρ mu Φ := fun g H ad σ Q S k =>
  h g H ad σ _ S fun v s H1 ad1 mu1 S1 hv ⟨ns, e, h1⟩ => by
    subst e
    obtain ⟨a, vs, rfl, e2, r⟩ := Rep.lst_inv hv
    have e := r.ints_inv
    subst e
    refine ⟨.inl ⟨rfl, _, SqL.of (pub_same _ _ e2)⟩, h1 (g.here H1 ad1) H1 ad1 σ _ S1.here fun vs xs H2 ad2 mu2 S2 hs ⟨z, j, e, hj, hn, q⟩ => ?_⟩
    subst e
    have eqi : ∀ a b : Int, eqV (.int a) (.int b) = decide (a = b) := fun a b => by
      by_cases h : a = b
      · subst h; simp [eqV]
      · simp [eqV, h]
    have fl : (ns.map V.int).all flatV = true := by
      rw [List.all_eq_true]
      intro v hv
      obtain ⟨s, _, rfl⟩ := List.mem_map.mp hv
      rfl
    refine ⟨a, ns.map V.int, .int z, j, .int z, rfl, ints1 hs, SqL.of (pub_same _ _ (S2.base _ _ e2)), rfl, fl, by rw [List.getElem?_map, hj]; rfl, by rw [eqi]; simp, fun m z' hm hz => ?_, k _ _ _ _ _ (S1.back S2) (sv_d (Rep.int _)) q⟩
    rw [List.getElem?_map] at hz
    cases q2 : ns[m]? with
    | none => rw [q2] at hz; cases hz
    | some y =>
      rw [q2] at hz; cases hz
      rw [eqi]
      exact decide_eq_false fun e => hn m hm (by rw [q2, e])

/-! ### dicts -/
theorem CtOk.dk {G : Hp} {a : Addr} {o : HO} {f : Key → Option D} {n : Nat} (h : CtOk K G a o (.dK f n)) : ∃ ws, o = .dK ws ∧ ws.length ≤ n ∧ (∀ k, valV ws k = none ↔ f k = none) ∧ ∀ k v d, valV ws k = some v → f k = some d → Rep K G v d := h
/-- the key of a value -/
def keyD : Key → D
  | .inl i => .int i
  | .inr x => .str x
theorem rep_key {G : Hp} {v : V} {y : Key} (h : Rep K G v (keyD y)) : v = kV y := by
  cases y with
  | inl i => exact h.int_inv
  | inr x => exact h.str_inv
/-- d[k], it is there -/
theorem we_dget {ty : TE} (h : WE K to ρ mu fun s mu1 => WE K ty ρ mu1 fun y mu2 => ∃ m f n kk d, s = .ob m ∧ mu2[m]? = some (.dK f n) ∧ y = .dat (keyD kk) ∧ f kk = some d ∧ Φ (.dat d) mu2) : WE K (tDGet to ty) ρ mu Φ := fun g H ad σ Q S k =>
  h g H ad σ _ S fun v s H1 ad1 mu1 S1 hv h1 =>
    h1 (g.here H1 ad1) H1 ad1 σ _ S1.here fun u y H2 ad2 mu2 S2 hu ⟨m, f, n, kk, d, e1, hm, e2, hd, q⟩ => by
      subst e1; subst e2
      have S3 := S1.back S2
      obtain ⟨a, ha, rfl⟩ := (show SvOk K (pub (Mx g.M ad2) H2) ad2 v (.ob m) from hv.keep S2)
      obtain ⟨o, r1, r2⟩ := S3.mu.ct m a _ ha hm
      obtain ⟨ws, rfl, hl, hn, hr⟩ := r2.dk
      cases z : valV ws kk with
      | none => rw [(hn kk).mp z] at hd; cases hd
      | some x => exact ⟨a, x, rfl, by rw [rep_key hu, ← z]; exact DGet.k r1, k _ _ _ _ _ S3 (sv_d (hr kk x d z hd)) q⟩
/-- d.get(k, e) -/
theorem we_dget2 {ty tx : TE} (h : WE K to ρ mu fun s mu1 => ∃ m f0 n0, s = .ob m ∧ mu1[m]? = some (.dK f0 n0) ∧ WE K ty ρ mu1 fun y mu2 => WE K tx ρ mu2 fun e mu3 => ∃ f n kk d0, mu3[m]? = some (.dK f n) ∧ y = .dat (keyD kk) ∧ e = .dat d0 ∧ Φ (.dat ((f kk).getD d0)) mu3) : WE K (tDGet2 to ty tx) ρ mu Φ := fun g H ad σ Q S k =>
  h g H ad σ _ S fun v s H1 ad1 mu1 S1 hv ⟨m, f0, n0, e1, hm0, h1⟩ => by
    subst e1
    obtain ⟨a, ha, rfl⟩ := hv
    obtain ⟨o0, r01, r02⟩ := S1.mu.ct m a _ ha hm0
    obtain ⟨ws0, rfl, _⟩ := r02.dk
    refine ⟨a, rfl, .inl ⟨ws0, .inl r01⟩, h1 (g.here H1 ad1) H1 ad1 σ _ S1.here fun u y H2 ad2 mu2 S2 hu h2 => ?_⟩
    refine h2 ((g.here H1 ad1).here H2 ad2) H2 ad2 σ _ S2.here fun w e H3 ad3 mu3 S3 hw ⟨f, n, kk, d0, hm, e2, e3, q⟩ => ?_
    subst e2; subst e3
    have S4 := S1.back (S2.back S3)
    have ha3 := take_get (S2.back S3).pre ha
    obtain ⟨o, r1, r2⟩ := S4.mu.ct m a _ ha3 hm
    obtain ⟨ws, rfl, hl, hn, hr⟩ := r2.dk
    have hu2 : u = kV kk := rep_key hu
    refine ⟨valV ws kk, by rw [hu2]; exact DGet.k r1, k _ (.dat ((f kk).getD d0)) _ _ _ S4 ?_ q⟩
    cases z : valV ws kk with
    | none =>
      rw [(hn kk).mp z]
      exact hw
    | some x =>
      cases zf : f kk with
      | none => rw [(hn kk).mpr zf] at z; cases z
      | some d => exact hr kk x d z zf
theorem put_len (ws : List (Key × V)) (k : Key) (v : V) : (putK ws k v).length ≤ ws.length + 1 := by
  unfold putK
  split
  · rw [List.length_map]; omega
  · rw [List.length_append, List.length_singleton]; omega
theorem ct_put {G : Hp} {a : Addr} {ws : List (Key × V)} {f : Key → Option D} {n : Nat} {kk : Key} {v : V} {d : D} (hl : ws.length ≤ n) (hn : ∀ k, valV ws k = none ↔ f k = none) (hr : ∀ k v d, valV ws k = some v → f k = some d → Rep K G v d) (hv : Rep K G v d) :
    CtOk K G a (.dK (putK ws kk v)) (.dK (fun j => if j = kk then some d else f j) (n + 1)) := by
  refine ⟨_, rfl, Nat.le_trans (put_len ws kk v) (by omega), fun j => ?_, fun j x e h1 h2 => ?_⟩
  · rw [valV_put]
    by_cases h : j = kk
    · simp [h]
    · simp [h, hn j]
  · rw [valV_put] at h1
    by_cases h : j = kk
    · simp [h] at h1 h2
      rw [← h1, ← h2]; exact hv
    · simp [h] at h1 h2
      exact hr j x e h1 h2
/-- dict(pairs) -/
def putD (f : Key → Option D) (p : Key × D) : Key → Option D := fun j => if j = p.1 then some p.2 else f j
def dictD (prs : List (Key × D)) : Key → Option D := prs.foldl putD fun _ => none
theorem putD_mem : ∀ (prs : List (Key × D)) (f : Key → Option D) (k : Key) (d : D), prs.foldl putD f k = some d → (k, d) ∈ prs ∨ f k = some d
  | [], _, _, _, h => .inr h
  | p :: r, f, k, d, h => by
    rcases putD_mem r (putD f p) k d h with z | z
    · exact .inl (List.mem_cons_of_mem _ z)
    · unfold putD at z
      by_cases e : k = p.1
      · rw [if_pos e] at z
        cases z
        exact .inl (by rw [e]; exact List.mem_cons_self)
      · rw [if_neg e] at z; exact .inr z
theorem dictD_mem {prs : List (Key × D)} {k : Key} {d : D} (h : dictD prs k = some d) : (k, d) ∈ prs := by
  rcases putD_mem prs _ k d h with z | z
  · exact z
  · cases z
theorem pairs_got {G H : Hp} (hs : Same G H) : ∀ {prs : List (Key × D)} {vs : List V}, RepL K G vs (prs.map fun p => .tup [keyD p.1, p.2]) → ∃ (ps : List Addr) (kvs : List (Key × V)), vs = ps.map V.ref ∧ Paired (fun p kv => SqT K H p [kV kv.1, kv.2]) ps kvs ∧ Paired (fun kv pd => kv.1 = pd.1 ∧ Rep K G kv.2 pd.2) kvs prs
  | [], _, .nil => ⟨[], [], rfl, .nil, .nil⟩
  | p :: r, _, .cons h q => by
    obtain ⟨ps, kvs, e, h1, h2⟩ := pairs_got hs q
    obtain ⟨a, vs, e1, e2, r2⟩ := Rep.tup_inv h
    cases r2 with
    | cons k1 k2 =>
      cases k2 with
      | cons k3 k4 =>
        cases k4
        refine ⟨a :: ps, (p.1, _) :: kvs, by rw [e1, e]; rfl, .cons ?_ h1, .cons ⟨rfl, k3⟩ h2⟩
        have := rep_key k1
        subst this
        exact SqT.of (hs _ _ e2)
theorem ct_merge {G : Hp} {a : Addr} : ∀ {kvs : List (Key × V)} {prs : List (Key × D)}, Paired (fun kv pd => kv.1 = pd.1 ∧ Rep K G kv.2 pd.2) kvs prs → ∀ {ws : List (Key × V)} {f : Key → Option D} {n : Nat}, CtOk K G a (.dK ws) (.dK f n) → CtOk K G a (.dK (mergeK ws kvs)) (.dK (prs.foldl putD f) (n + prs.length))
  | _, _, .nil, _, _, _, h => h
  | _, _, .cons (a := kv) (b := p) ⟨e, r⟩ q, ws, f, n, h => by
    obtain ⟨ws', e1, hl, hn, hr⟩ := h.dk
    cases e1
    have z := ct_put (a := a) (kk := kv.1) hl hn hr r
    have z2 := ct_merge q (ws := putK ws kv.1 kv.2) z
    rw [List.length_cons, Nat.add_comm _ 1, ← Nat.add_assoc]
    have e2 : (fun j => if j = kv.1 then some p.2 else f j) = putD f p := by unfold putD; rw [e]
    rw [e2] at z2
    exact z2
/-- d[k] = e -/
theorem ws_dput {n : Nat} {E : En} {ty tv : TE} (h : WE K tv ρ mu fun s mu0 => WE K to ρ mu0 fun o mu1 => WE K ty ρ mu1 fun y mu2 => ∃ m f l kk, o = .ob m ∧ mu2[m]? = some (.dK f l) ∧ y = .dat (keyD kk) ∧ l < 1000000 ∧ E.nx ρ (mu2.set m (.dK (fun j => if j = kk then some s.toD else f j) (l + 1)))) :
    WS K n (sDPut to ty tv) ρ mu E := fun g H ad σ D hn S k1 k2 k3 k4 =>
  h (g.here H ad) H ad σ _ S.here fun x s H1 ad1 mu1 S1 hx h1 =>
    h1 (g.here H1 ad1) H1 ad1 σ _ (S.back S1).here fun v o H2 ad2 mu2 S2 hv h2 =>
      h2 (g.here H2 ad2) H2 ad2 σ _ ((S.back S1).back S2).here fun u y H3 ad3 mu3 S3 hu ⟨m, f, l, kk, e1, hm, e2, hl, q⟩ => by
        subst e1; subst e2
        have S4 := ((S.back S1).back S2).back S3
        obtain ⟨a, ha, rfl⟩ := (show SvOk K (pub (Mx g.M ad3) H3) ad3 v (.ob m) from hv.keep S3)
        obtain ⟨o, r1, r2⟩ := S4.mu.ct m a _ ha hm
        obtain ⟨ws, rfl, hwl, hwn, hwr⟩ := r2.dk
        have hx3 : SvOk K (pub (Mx g.M ad3) H3) ad3 x s := ((show SvOk K (pub (Mx g.M ad2) H2) ad2 x s from hx.keep S2)).keep S3
        obtain ⟨S5, e5⟩ := S4.change (o := .dK (putK ws kk x)) (c := .dK (fun j => if j = kk then some s.toD else f j) (l + 1)) ha (ct_put hwl hwn hwr hx3.toD)
        exact ⟨a, _, rfl, by rw [rep_key hu]; exact DPut.k r1 (Nat.lt_of_le_of_lt hwl (Nat.lt_of_lt_of_le hl (by decide))), k1 _ _ _ _ _ S5 q⟩
/-- (i, j) in d, d a dict of pairs -/
theorem we_inT {ta' tb' : TE} (h : WE K ta' ρ mu fun x mu1 => WE K tb' ρ mu1 fun y mu2 => WE K to ρ mu2 fun o mu3 => ∃ m f l i j, o = .ob m ∧ mu3[m]? = some (.dT f l) ∧ x = .dat (.int i) ∧ y = .dat (.int j) ∧ Φ (.dat (.bl (f [.inl i, .inl j]))) mu3) :
    WE K (tDIn (tTup (tCons ta' (tCons tb' tNil))) to) ρ mu Φ := fun g H ad σ Q S k =>
  h g H ad σ _ S fun v1 x H1 ad1 mu1 S1 hx h1 =>
    h1 (g.here H1 ad1) H1 ad1 σ _ S1.here fun v2 y H2 ad2 mu2 S2 hy h2 => ⟨by show 2 ≤ sizeLine; decide, fun p hp => by
      obtain ⟨S3, e3, s3⟩ := (S1.back S2).alloc (o := .tup [v1, v2]) hp
      refine h2 (g.here (upd H2 p (.tup [v1, v2])) ad2) _ ad2 σ _ S3.here fun v o H4 ad4 mu4 S4 hv ⟨m, f, l, i, j, e1, hm, ex, ey, q⟩ => ?_
      subst e1; subst ex; subst ey
      have S5 := S3.back S4
      obtain ⟨a, ha, rfl⟩ := (show SvOk K (pub (Mx g.M ad4) H4) ad4 v (.ob m) from hv)
      obtain ⟨ob, r1, ws, r2, r3, r4⟩ := S5.mu.ct m a _ ha hm
      subst r2
      have ex : v1 = .int i := Rep.int_inv (show Rep K _ v1 (.int i) from hx)
      have ey : v2 = .int j := Rep.int_inv (show Rep K _ v2 (.int j) from hy)
      have hp4 : H4 p = some (.tup [.int i, .int j]) := by
        rw [← ex, ← ey]
        refine pub_same _ _ (S4.base p _ ?_)
        show pub (Mx g.M ad2) (upd H2 p (.tup [v1, v2])) p = _
        rw [e3]; exact upd_same
      exact ⟨a, _, rfl, DGet.t (k := [.inl i, .inl j]) r1 hp4, k _ _ _ _ _ S5 (sv_d (Rep.bl _)) (by rw [r4]; exact q)⟩⟩
theorem putT_len (ws : List (List Key × V)) (k : List Key) (v : V) : (putK ws k v).length ≤ ws.length + 1 := by
  unfold putK
  split
  · rw [List.length_map]; omega
  · rw [List.length_append, List.length_singleton]; omega
/-- d[i, j] = e -/
theorem ws_tput {n : Nat} {E : En} {tv ta' tb' : TE} (h : WE K tv ρ mu fun s mu0 => WE K to ρ mu0 fun o mu1 => WE K ta' ρ mu1 fun x mu2 => WE K tb' ρ mu2 fun y mu3 => ∃ m f l i j, o = .ob m ∧ mu3[m]? = some (.dT f l) ∧ x = .dat (.int i) ∧ y = .dat (.int j) ∧ l < 1000000 ∧ E.nx ρ (mu3.set m (.dT (fun z => decide (z = [.inl i, .inl j]) || f z) (l + 1)))) :
    WS K n (sDPut to (tTup (tCons ta' (tCons tb' tNil))) tv) ρ mu E := fun g H ad σ D hn S k1 k2 k3 k4 =>
  h (g.here H ad) H ad σ _ S.here fun x0 s H1 ad1 mu1 S1 hx0 h1 =>
    h1 (g.here H1 ad1) H1 ad1 σ _ (S.back S1).here fun v o H2 ad2 mu2 S2 hv h2 =>
      h2 (g.here H2 ad2) H2 ad2 σ _ ((S.back S1).back S2).here fun v1 x H3 ad3 mu3 S3 hx h3 =>
        h3 (g.here H3 ad3) H3 ad3 σ _ (((S.back S1).back S2).back S3).here fun v2 y H4 ad4 mu4 S4 hy ⟨m, f, l, i, j, e1, hm, ex, ey, hl, q⟩ => ⟨by show 2 ≤ sizeLine; decide, fun p hp => by
          subst e1; subst ex; subst ey
          have S5 := (((S.back S1).back S2).back S3).back S4
          obtain ⟨S6, e6, s6⟩ := S5.alloc (o := .tup [v1, v2]) hp
          obtain ⟨a, ha, rfl⟩ := (show SvOk K (pub (Mx g.M ad4) H4) ad4 v (.ob m) from (show SvOk K (pub (Mx g.M ad3) H3) ad3 v (.ob m) from hv.keep S3).keep S4)
          obtain ⟨ob, r1, ws, r2, r3, r4⟩ := S6.mu.ct m a _ ha hm
          subst r2
          have ex : v1 = .int i := Rep.int_inv (show Rep K _ v1 (.int i) from hx)
          have ey : v2 = .int j := Rep.int_inv (show Rep K _ v2 (.int j) from hy)
          have hp4 : (upd H4 p (.tup [v1, v2])) p = some (.tup (([.inl i, .inl j] : List Key).map kV)) := by
            rw [upd_same, ex, ey]; rfl
          obtain ⟨S7, e7⟩ := S6.change (o := .dT (putK ws [.inl i, .inl j] x0)) (c := .dT (fun z => decide (z = [.inl i, .inl j]) || f z) (l + 1)) ha ⟨_, rfl, Nat.le_trans (putT_len ws _ x0) (by omega), fun z => by
            rw [valV_put]
            by_cases hz : z = [.inl i, .inl j]
            · simp [hz]
            · simp [hz, r4 z]⟩
          exact ⟨a, _, rfl, DPut.t r1 hp4 (Nat.lt_of_le_of_lt r3 (Nat.lt_of_lt_of_le hl (by decide))), k1 _ _ _ _ _ S7 q⟩⟩
/-- sizes[i]: an item of a list, or a value of a dict -/
def tAlt (t1 t2 : TE) : TE := fun σ H Q => t1 σ H Q ∨ t2 σ H Q
theorem pe_alt {X : Cx} {e : Expr} {t1 t2 : TE} (h1 : PE X e t1) (h2 : PE X e t2) : PE X e (tAlt t1 t2) := ⟨fun pins s σ H Q I h => h.elim (h1.run pins s σ H Q I) (h2.run pins s σ H Q I)⟩
theorem we_alt1 {t1 t2 : TE} (h : WE K t1 ρ mu Φ) : WE K (tAlt t1 t2) ρ mu Φ := fun g H ad σ Q S k => .inl (h g H ad σ Q S k)
theorem we_alt2 {t1 t2 : TE} (h : WE K t2 ρ mu Φ) : WE K (tAlt t1 t2) ρ mu Φ := fun g H ad σ Q S k => .inr (h g H ad σ Q S k)
/-- xs[i] += e -/
theorem pget_list {X : Cx} : PGet X (rIxL X.K) := by
  intro pins s σ H x y v u Q I rx ry h
  obtain ⟨p, xs, i, z, rfl, rfl, hq, he, q⟩ := h
  cases rx
  obtain ⟨t, rfl⟩ := ry
  obtain ⟨its, r, pl, hz⟩ := I.list hq
  obtain ⟨j, h1, h2, h3, h4, h5⟩ := atI_get he
  obtain ⟨w, ew, rw'⟩ := r.get h2
  have hl := r.length
  have hn := line63
  have fin : EP X pins σ Q w s := ⟨z, H, I, rw', q⟩
  by_cases h0 : 0 ≤ i
  · have hj : i.toNat = j := by
      rw [seqIndex_of h0 h5] at h1
      exact Option.some.inj h1
    exact wpAny_getItem_list pl.isList h0 (by omega) (by rw [hj]; simpa using ew) fin
  · have hj : (i + (its.toArray.size : Int)).toNat = j := by
      rw [seqIndex_neg (by omega) h4] at h1
      rw [List.size_toArray, ← hl]
      exact Option.some.inj h1
    exact wpAny_getItem_list_neg pl.isList (by omega) (by rw [List.size_toArray] <;> omega) (by omega) (by rw [hj]; simpa using ew) fin
theorem ws_augL {n : Nat} {E : En} (h : WE K to ρ mu fun o mu1 => WE K ti ρ mu1 fun i mu2 => ∃ m ds j l a, o = .ob m ∧ mu2[m]? = some (.lst ds) ∧ i = .dat (.int j) ∧ ixN ds.length j = some l ∧ ds[l]? = some (.int a) ∧
    WE K te ρ mu2 fun s mu3 => ∃ b, s = .dat (.int b) ∧ mu3 = mu2 ∧ E.nx ρ (mu2.set m (.lst (ds.set l (.int (a + b)))))) : WS K n (tAugS to ti te (rIxL K) (ipI fun i j => i + j) rSetL) ρ mu E := fun g H ad σ D hn S k1 k2 k3 k4 =>
  h g H ad σ _ S fun v o H1 ad1 mu1 S1 hv h1 =>
    h1 (g.here H1 ad1) H1 ad1 σ _ S1.here fun u i H2 ad2 mu2 S2 hu ⟨m, ds, j, l, a, e1, hm, e2, hl, hd, h2⟩ => by
      subst e1; subst e2
      have S3 := S1.back S2
      obtain ⟨ad0, ha, rfl⟩ := (show SvOk K (pub (Mx g.M ad2) H2) ad2 v (.ob m) from hv.keep S2)
      obtain ⟨ob, r1, vs, r2, r3⟩ := S3.mu.ct m ad0 _ ha hm
      subst r2
      obtain ⟨x, hx1, hx2⟩ := r3.get hd
      have eu : u = .int j := Rep.int_inv (show Rep K _ u (.int j) from hu)
      have ex : x = .int a := hx2.int_inv
      subst ex; subst eu
      refine ⟨ad0, vs, j, .int a, rfl, rfl, SqL.of r1, by unfold atI; rw [r3.length, hl]; exact hx1, ?_⟩
      refine h2 (g.here H2 ad2) H2 ad2 σ _ S3.here fun w s H4 ad4 mu4 S4 hw ⟨b, e3, e4, q⟩ => ?_
      subst e3; subst e4
      have S5 := S3.back S4
      have ha4 := take_get S4.pre ha
      obtain ⟨ob, w1, vs2, w2, w3⟩ := S5.mu.ct m ad0 _ ha4 hm
      subst w2
      obtain ⟨S6, e6⟩ := S5.change (o := .lst (vs2.set l (.int (a + b)))) (c := .lst (ds.set l (.int (a + b)))) ha4 ⟨_, rfl, w3.set l (Rep.int _)⟩
      exact ⟨a, b, rfl, Rep.int_inv (show Rep K _ w (.int b) from hw), ad0, vs2, j, l, rfl, rfl, w1, by rw [w3.length]; exact hl, k1 _ _ _ _ _ S6 q⟩
end
end LP
end

section
set_option maxHeartbeats 2000000
/-! LpT: the program's text by places (printed by wip/gen/gen.py). -/
namespace LP
open PySem PySem.Spec PyProof.Rows L2
def topS (i : Nat) : Stmt := PySem.Challenge.pw_leafpress_k33_whole_insides.main.body.getD i (.Pass ⟨0, 0, 0, 0⟩)
abbrev s_ask_node : Stmt := topS 5
abbrev N_ask_node : List Str := ["book", "node"]
theorem sc_ask_node : FnScope N_ask_node ["book", "node"] (defScope s_ask_node) := ⟨rfl, rfl, rfl, by decide +kernel, rfl, by decide +kernel, by decide +kernel⟩
abbrev s_holds : Stmt := topS 6
abbrev N_holds : List Str := ["book", "node", "other"]
theorem sc_holds : FnScope N_holds ["book", "node"] (defScope s_holds) := ⟨rfl, rfl, rfl, by decide +kernel, rfl, by decide +kernel, by decide +kernel⟩
abbrev s_aside_of : Stmt := topS 7
abbrev N_aside_of : List Str := ["book", "node", "some", "at"]
theorem sc_aside_of : FnScope N_aside_of ["book", "node"] (defScope s_aside_of) := ⟨rfl, rfl, rfl, by decide +kernel, rfl, by decide +kernel, by decide +kernel⟩
abbrev s_width_of_row : Stmt := topS 10
abbrev N_width_of_row : List Str := ["width", "narrow", "row", "count", "by"]
theorem sc_width_of_row : FnScope N_width_of_row ["width", "narrow", "row"] (defScope s_width_of_row) := ⟨rfl, rfl, rfl, by decide +kernel, rfl, by decide +kernel, by decide +kernel⟩
abbrev s_blemish_of : Stmt := topS 11
abbrev N_blemish_of : List Str := ["length", "room", "alone", "ends"]
theorem sc_blemish_of : FnScope N_blemish_of ["length", "room", "alone", "ends"] (defScope s_blemish_of) := ⟨rfl, rfl, rfl, by decide +kernel, rfl, by decide +kernel, by decide +kernel⟩
abbrev s_rows_ending : Stmt := topS 12
abbrev N_rows_ending : List Str := ["units", "last", "room", "found", "length", "first", "blemish"]
theorem sc_rows_ending : FnScope N_rows_ending ["units", "last", "room"] (defScope s_rows_ending) := ⟨rfl, rfl, rfl, by decide +kernel, rfl, by decide +kernel, by decide +kernel⟩
abbrev s_least_sum : Stmt := topS 13
abbrev N_least_sum : List Str := ["units", "ahead", "last", "width", "narrow", "row", "found", "begun", "first", "blemish"]
theorem sc_least_sum : FnScope N_least_sum ["units", "ahead", "last", "width", "narrow", "row"] (defScope s_least_sum) := ⟨rfl, rfl, rfl, by decide +kernel, rfl, by decide +kernel, by decide +kernel⟩
abbrev s_all_sums : Stmt := topS 14
abbrev N_all_sums : List Str := ["units", "width", "narrow", "many", "sums", "row", "line", "last"]
theorem sc_all_sums : FnScope N_all_sums ["units", "width", "narrow"] (defScope s_all_sums) := ⟨rfl, rfl, rfl, by decide +kernel, rfl, by decide +kernel, by decide +kernel⟩
abbrev s_fewest_rows : Stmt := topS 15
abbrev N_fewest_rows : List Str := ["sums", "best", "row", "here"]
theorem sc_fewest_rows : FnScope N_fewest_rows ["sums"] (defScope s_fewest_rows) := ⟨rfl, rfl, rfl, by decide +kernel, rfl, by decide +kernel, by decide +kernel⟩
abbrev s_chosen_rows : Stmt := topS 16
abbrev N_chosen_rows : List Str := ["units", "width", "narrow", "sums", "last", "found", "row", "first"]
theorem sc_chosen_rows : FnScope N_chosen_rows ["units", "width", "narrow", "sums"] (defScope s_chosen_rows) := ⟨rfl, rfl, rfl, by decide +kernel, rfl, by decide +kernel, by decide +kernel⟩
abbrev s_broken : Stmt := topS 17
abbrev N_broken : List Str := ["units", "width", "narrow", "sums"]
theorem sc_broken : FnScope N_broken ["units", "width", "narrow"] (defScope s_broken) := ⟨rfl, rfl, rfl, by decide +kernel, rfl, by decide +kernel, by decide +kernel⟩
abbrev s_is_free : Stmt := topS 19
abbrev N_is_free : List Str := ["taken", "row", "column", "span", "deep", "down", "right"]
theorem sc_is_free : FnScope N_is_free ["taken", "row", "column", "span", "deep"] (defScope s_is_free) := ⟨rfl, rfl, rfl, by decide +kernel, rfl, by decide +kernel, by decide +kernel⟩
abbrev s_first_place : Stmt := topS 20
abbrev N_first_place : List Str := ["taken", "columns", "span", "deep", "row", "column"]
theorem sc_first_place : FnScope N_first_place ["taken", "columns", "span", "deep"] (defScope s_first_place) := ⟨rfl, rfl, rfl, by decide +kernel, rfl, by decide +kernel, by decide +kernel⟩
abbrev s_grid_places : Stmt := topS 21
abbrev N_grid_places : List Str := ["columns", "cells", "taken", "places", "wish", "deep", "span", "row", "column", "down", "right"]
theorem sc_grid_places : FnScope N_grid_places ["columns", "cells"] (defScope s_grid_places) := ⟨rfl, rfl, rfl, by decide +kernel, rfl, by decide +kernel, by decide +kernel⟩
abbrev s_grid_highs : Stmt := topS 22
abbrev N_grid_highs : List Str := ["places", "highs", "found", "place", "row", "most", "high"]
theorem sc_grid_highs : FnScope N_grid_highs ["places", "highs"] (defScope s_grid_highs) := ⟨rfl, rfl, rfl, by decide +kernel, rfl, by decide +kernel, by decide +kernel⟩
abbrev s_face_at : Stmt := topS 24
abbrev N_face_at : List Str := ["faces", "number", "high", "blank", "wide", "odd"]
theorem sc_face_at : FnScope N_face_at ["faces", "number"] (defScope s_face_at) := ⟨rfl, rfl, rfl, by decide +kernel, rfl, by decide +kernel, by decide +kernel⟩
abbrev s_word_width : Stmt := topS 25
abbrev N_word_width : List Str := ["face", "word", "high", "blank", "wide", "odd", "own", "sign", "width"]
theorem sc_word_width : FnScope N_word_width ["face", "word"] (defScope s_word_width) := ⟨rfl, rfl, rfl, by decide +kernel, rfl, by decide +kernel, by decide +kernel⟩
abbrev s_widest_figure : Stmt := topS 26
abbrev N_widest_figure : List Str := ["face", "figure"]
theorem sc_widest_figure : FnScope N_widest_figure ["face"] (defScope s_widest_figure) := ⟨rfl, rfl, rfl, by decide +kernel, rfl, by decide +kernel, by decide +kernel⟩
abbrev s_look_at : Stmt := topS 29
abbrev N_look_at : List Str := ["looks", "node", "word"]
theorem sc_look_at : FnScope N_look_at ["looks", "node", "word"] (defScope s_look_at) := ⟨rfl, rfl, rfl, by decide +kernel, rfl, by decide +kernel, by decide +kernel⟩
abbrev s_word_of : Stmt := topS 33
abbrev N_word_of : List Str := ["piece", "shown", "sort", "thing", "tone"]
theorem sc_word_of : FnScope N_word_of ["piece", "shown"] (defScope s_word_of) := ⟨rfl, rfl, rfl, by decide +kernel, rfl, by decide +kernel, by decide +kernel⟩
abbrev s_piece_wide : Stmt := topS 34
abbrev N_piece_wide : List Str := ["face", "piece", "shown", "held", "wide"]
theorem sc_piece_wide : FnScope N_piece_wide ["face", "piece", "shown", "held"] (defScope s_piece_wide) := ⟨rfl, rfl, rfl, by decide +kernel, rfl, by decide +kernel, by decide +kernel⟩
abbrev s_node_units : Stmt := topS 35
abbrev N_node_units : List Str := ["book", "looks", "faces", "shown", "held", "node", "found", "notes", "number", "piece", "face"]
theorem sc_node_units : FnScope N_node_units ["book", "looks", "faces", "shown", "held", "node"] (defScope s_node_units) := ⟨rfl, rfl, rfl, by decide +kernel, rfl, by decide +kernel, by decide +kernel⟩
abbrev s_all_units : Stmt := topS 36
abbrev N_all_units : List Str := ["book", "looks", "faces", "shown", "held", "node"]
theorem sc_all_units : FnScope N_all_units ["book", "looks", "faces", "shown", "held"] (defScope s_all_units) := ⟨rfl, rfl, rfl, by decide +kernel, rfl, by decide +kernel, by decide +kernel⟩
abbrev s_rows_high : Stmt := topS 37
abbrev N_rows_high : List Str := ["units", "wide", "blank", "high", "piece", "notes"]
theorem sc_rows_high : FnScope N_rows_high ["units"] (defScope s_rows_high) := ⟨rfl, rfl, rfl, by decide +kernel, rfl, by decide +kernel, by decide +kernel⟩
abbrev s_text_width : Stmt := topS 39
abbrev N_text_width : List Str := ["looks", "spans", "node"]
theorem sc_text_width : FnScope N_text_width ["looks", "spans", "node"] (defScope s_text_width) := ⟨rfl, rfl, rfl, by decide +kernel, rfl, by decide +kernel, by decide +kernel⟩
abbrev s_narrow_of : Stmt := topS 40
abbrev N_narrow_of : List Str := ["book", "units", "spans", "sizes", "node", "aside", "high"]
theorem sc_narrow_of : FnScope N_narrow_of ["book", "units", "spans", "sizes", "node"] (defScope s_narrow_of) := ⟨rfl, rfl, rfl, by decide +kernel, rfl, by decide +kernel, by decide +kernel⟩
abbrev s_text_size : Stmt := topS 41
abbrev N_text_size : List Str := ["book", "looks", "units", "spans", "sizes", "node", "narrow", "rows", "sums"]
theorem sc_text_size : FnScope N_text_size ["book", "looks", "units", "spans", "sizes", "node"] (defScope s_text_size) := ⟨rfl, rfl, rfl, by decide +kernel, rfl, by decide +kernel, by decide +kernel⟩
abbrev s_tops_in_grid : Stmt := topS 42
abbrev N_tops_in_grid : List Str := ["book", "looks", "sizes", "node", "some", "cells", "places", "highs", "one", "place"]
theorem sc_tops_in_grid : FnScope N_tops_in_grid ["book", "looks", "sizes", "node"] (defScope s_tops_in_grid) := ⟨rfl, rfl, rfl, by decide +kernel, rfl, by decide +kernel, by decide +kernel⟩
abbrev s_tops_below : Stmt := topS 43
abbrev N_tops_below : List Str := ["book", "looks", "sizes", "node", "found", "end", "one", "some", "aside", "top", "other"]
theorem sc_tops_below : FnScope N_tops_below ["book", "looks", "sizes", "node"] (defScope s_tops_below) := ⟨rfl, rfl, rfl, by decide +kernel, rfl, by decide +kernel, by decide +kernel⟩
abbrev s_tops_within : Stmt := topS 44
abbrev N_tops_within : List Str := ["book", "looks", "sizes", "node", "kind", "some", "one"]
theorem sc_tops_within : FnScope N_tops_within ["book", "looks", "sizes", "node"] (defScope s_tops_within) := ⟨rfl, rfl, rfl, by decide +kernel, rfl, by decide +kernel, by decide +kernel⟩
abbrev s_size_nodes : Stmt := topS 45
abbrev N_size_nodes : List Str := ["book", "looks", "units", "spans", "sizes", "node", "one", "kind"]
theorem sc_size_nodes : FnScope N_size_nodes ["book", "looks", "units", "spans", "sizes", "node"] (defScope s_size_nodes) := ⟨rfl, rfl, rfl, by decide +kernel, rfl, by decide +kernel, by decide +kernel⟩
abbrev s_all_sizes : Stmt := topS 46
abbrev N_all_sizes : List Str := ["book", "looks", "units", "spans", "sizes", "node"]
theorem sc_all_sizes : FnScope N_all_sizes ["book", "looks", "units", "spans"] (defScope s_all_sizes) := ⟨rfl, rfl, rfl, by decide +kernel, rfl, by decide +kernel, by decide +kernel⟩
abbrev s_box_wide : Stmt := topS 48
abbrev N_box_wide : List Str := ["book", "spans", "node"]
theorem sc_box_wide : FnScope N_box_wide ["book", "spans", "node"] (defScope s_box_wide) := ⟨rfl, rfl, rfl, by decide +kernel, rfl, by decide +kernel, by decide +kernel⟩
abbrev s_insides : Stmt := topS 49
abbrev N_insides : List Str := ["book", "looks", "spans", "sizes", "node", "top", "found", "one", "down"]
theorem sc_insides : FnScope N_insides ["book", "looks", "spans", "sizes", "node", "top"] (defScope s_insides) := ⟨rfl, rfl, rfl, by decide +kernel, rfl, by decide +kernel, by decide +kernel⟩
abbrev s_floor_of : Stmt := topS 51
abbrev N_floor_of : List Str := ["looks", "node", "low"]
theorem sc_floor_of : FnScope N_floor_of ["looks", "node", "low"] (defScope s_floor_of) := ⟨rfl, rfl, rfl, by decide +kernel, rfl, by decide +kernel, by decide +kernel⟩
abbrev s_roof_of : Stmt := topS 52
abbrev N_roof_of : List Str := ["looks", "node", "low"]
theorem sc_roof_of : FnScope N_roof_of ["looks", "node", "low"] (defScope s_roof_of) := ⟨rfl, rfl, rfl, by decide +kernel, rfl, by decide +kernel, by decide +kernel⟩
abbrev s_units_bounds : Stmt := topS 53
abbrev N_units_bounds : List Str := ["units", "wides", "unit"]
theorem sc_units_bounds : FnScope N_units_bounds ["units"] (defScope s_units_bounds) := ⟨rfl, rfl, rfl, by decide +kernel, rfl, by decide +kernel, by decide +kernel⟩
abbrev s_column_bounds : Stmt := topS 54
abbrev N_column_bounds : List Str := ["book", "looks", "bounds", "some", "low", "great", "node", "least", "most"]
theorem sc_column_bounds : FnScope N_column_bounds ["book", "looks", "bounds", "some"] (defScope s_column_bounds) := ⟨rfl, rfl, rfl, by decide +kernel, rfl, by decide +kernel, by decide +kernel⟩
abbrev s_shelf_bounds : Stmt := topS 55
abbrev N_shelf_bounds : List Str := ["looks", "bounds", "some", "low", "great", "node", "floor"]
theorem sc_shelf_bounds : FnScope N_shelf_bounds ["looks", "bounds", "some"] (defScope s_shelf_bounds) := ⟨rfl, rfl, rfl, by decide +kernel, rfl, by decide +kernel, by decide +kernel⟩
abbrev s_grid_bounds : Stmt := topS 56
abbrev N_grid_bounds : List Str := ["looks", "bounds", "some", "columns", "low", "great", "node", "span"]
theorem sc_grid_bounds : FnScope N_grid_bounds ["looks", "bounds", "some", "columns"] (defScope s_grid_bounds) := ⟨rfl, rfl, rfl, by decide +kernel, rfl, by decide +kernel, by decide +kernel⟩
abbrev s_inner_bounds : Stmt := topS 57
abbrev N_inner_bounds : List Str := ["book", "looks", "units", "bounds", "node", "kind", "some"]
theorem sc_inner_bounds : FnScope N_inner_bounds ["book", "looks", "units", "bounds", "node"] (defScope s_inner_bounds) := ⟨rfl, rfl, rfl, by decide +kernel, rfl, by decide +kernel, by decide +kernel⟩
abbrev s_node_bounds : Stmt := topS 58
abbrev N_node_bounds : List Str := ["book", "looks", "units", "bounds", "node", "low", "great", "inset"]
theorem sc_node_bounds : FnScope N_node_bounds ["book", "looks", "units", "bounds", "node"] (defScope s_node_bounds) := ⟨rfl, rfl, rfl, by decide +kernel, rfl, by decide +kernel, by decide +kernel⟩
abbrev s_all_bounds : Stmt := topS 59
abbrev N_all_bounds : List Str := ["book", "looks", "units", "bounds", "node"]
theorem sc_all_bounds : FnScope N_all_bounds ["book", "looks", "units"] (defScope s_all_bounds) := ⟨rfl, rfl, rfl, by decide +kernel, rfl, by decide +kernel, by decide +kernel⟩
abbrev s_next_place : Stmt := topS 61
abbrev N_next_place : List Str := ["have", "roofs", "weights", "best", "place", "number"]
theorem sc_next_place : FnScope N_next_place ["have", "roofs", "weights"] (defScope s_next_place) := ⟨rfl, rfl, rfl, by decide +kernel, rfl, by decide +kernel, by decide +kernel⟩
abbrev s_shares : Stmt := topS 62
abbrev N_shares : List Str := ["width", "floors", "roofs", "weights", "have", "step", "place"]
theorem sc_shares : FnScope N_shares ["width", "floors", "roofs", "weights"] (defScope s_shares) := ⟨rfl, rfl, rfl, by decide +kernel, rfl, by decide +kernel, by decide +kernel⟩
abbrev s_room_of : Stmt := topS 64
abbrev N_room_of : List Str := ["looks", "spans", "node", "left", "wide", "inset"]
theorem sc_room_of : FnScope N_room_of ["looks", "spans", "node"] (defScope s_room_of) := ⟨rfl, rfl, rfl, by decide +kernel, rfl, by decide +kernel, by decide +kernel⟩
abbrev s_aside_span : Stmt := topS 65
abbrev N_aside_span : List Str := ["looks", "node", "room", "left", "wide", "own"]
theorem sc_aside_span : FnScope N_aside_span ["looks", "node", "room"] (defScope s_aside_span) := ⟨rfl, rfl, rfl, by decide +kernel, rfl, by decide +kernel, by decide +kernel⟩
abbrev s_shelf_needs : Stmt := topS 66
abbrev N_shelf_needs : List Str := ["looks", "bounds", "some", "floors", "roofs", "node"]
theorem sc_shelf_needs : FnScope N_shelf_needs ["looks", "bounds", "some"] (defScope s_shelf_needs) := ⟨rfl, rfl, rfl, by decide +kernel, rfl, by decide +kernel, by decide +kernel⟩
abbrev s_side_by_side : Stmt := topS 67
abbrev N_side_by_side : List Str := ["left", "wides", "found", "wide"]
theorem sc_side_by_side : FnScope N_side_by_side ["left", "wides"] (defScope s_side_by_side) := ⟨rfl, rfl, rfl, by decide +kernel, rfl, by decide +kernel, by decide +kernel⟩
abbrev s_shelf_spans : Stmt := topS 68
abbrev N_shelf_spans : List Str := ["looks", "bounds", "some", "room", "floors", "roofs", "weights"]
theorem sc_shelf_spans : FnScope N_shelf_spans ["looks", "bounds", "some", "room"] (defScope s_shelf_spans) := ⟨rfl, rfl, rfl, by decide +kernel, rfl, by decide +kernel, by decide +kernel⟩
abbrev s_column_wides : Stmt := topS 69
abbrev N_column_wides : List Str := ["wide", "columns", "column"]
theorem sc_column_wides : FnScope N_column_wides ["wide", "columns"] (defScope s_column_wides) := ⟨rfl, rfl, rfl, by decide +kernel, rfl, by decide +kernel, by decide +kernel⟩
abbrev s_grid_spans : Stmt := topS 70
abbrev N_grid_spans : List Str := ["looks", "node", "some", "room", "columns", "wides", "cells", "found", "row", "column", "span", "deep", "cell"]
theorem sc_grid_spans : FnScope N_grid_spans ["looks", "node", "some", "room"] (defScope s_grid_spans) := ⟨rfl, rfl, rfl, by decide +kernel, rfl, by decide +kernel, by decide +kernel⟩
abbrev s_column_spans : Stmt := topS 71
abbrev N_column_spans : List Str := ["book", "looks", "some", "room", "found", "node"]
theorem sc_column_spans : FnScope N_column_spans ["book", "looks", "some", "room"] (defScope s_column_spans) := ⟨rfl, rfl, rfl, by decide +kernel, rfl, by decide +kernel, by decide +kernel⟩
abbrev s_held_spans : Stmt := topS 72
abbrev N_held_spans : List Str := ["book", "looks", "bounds", "spans", "node", "kind", "some", "room", "note"]
theorem sc_held_spans : FnScope N_held_spans ["book", "looks", "bounds", "spans", "node"] (defScope s_held_spans) := ⟨rfl, rfl, rfl, by decide +kernel, rfl, by decide +kernel, by decide +kernel⟩
abbrev s_all_spans : Stmt := topS 73
abbrev N_all_spans : List Str := ["book", "looks", "bounds", "wide", "spans", "node", "other", "span"]
theorem sc_all_spans : FnScope N_all_spans ["book", "looks", "bounds", "wide"] (defScope s_all_spans) := ⟨rfl, rfl, rfl, by decide +kernel, rfl, by decide +kernel, by decide +kernel⟩
abbrev s__law_stream : Stmt := topS 75
abbrev N__law_stream : List Str := ["_law_script", "_law_k"]
theorem sc__law_stream : FnScope N__law_stream ["_law_script", "_law_k"] (defScope s__law_stream) := ⟨rfl, rfl, rfl, by decide +kernel, rfl, by decide +kernel, by decide +kernel⟩
abbrev s__law_take : Stmt := topS 76
abbrev N__law_take : List Str := ["_law_stream_here", "_law_most", "_law_digit"]
theorem sc__law_take : FnScope N__law_take ["_law_stream_here", "_law_most"] (defScope s__law_take) := ⟨rfl, rfl, rfl, by decide +kernel, rfl, by decide +kernel, by decide +kernel⟩
abbrev s__law_word : Stmt := topS 78
abbrev N__law_word : List Str := ["_law_stream_here", "_law_most", "_law_signs", "_law_word_here", "_law_k"]
theorem sc__law_word : FnScope N__law_word ["_law_stream_here", "_law_most"] (defScope s__law_word) := ⟨rfl, rfl, rfl, by decide +kernel, rfl, by decide +kernel, by decide +kernel⟩
abbrev s__law_pieces : Stmt := topS 79
abbrev N__law_pieces : List Str := ["_law_stream_here", "_law_notes", "_law_names", "_law_pieces_here", "_law_done", "_law_k"]
theorem sc__law_pieces : FnScope N__law_pieces ["_law_stream_here", "_law_notes", "_law_names"] (defScope s__law_pieces) := ⟨rfl, rfl, rfl, by decide +kernel, rfl, by decide +kernel, by decide +kernel⟩
abbrev s__law_add : Stmt := topS 80
abbrev N__law_add : List Str := ["_law_nodes", "_law_elder", "_law_kind", "_law_stuff", "_law_stream_here", "_law_letters", "_law_name", "_law_marks", "_law_k"]
theorem sc__law_add : FnScope N__law_add ["_law_nodes", "_law_elder", "_law_kind", "_law_stuff", "_law_stream_here"] (defScope s__law_add) := ⟨rfl, rfl, rfl, by decide +kernel, rfl, by decide +kernel, by decide +kernel⟩
abbrev s__law_text : Stmt := topS 81
abbrev N__law_text : List Str := ["_law_nodes", "_law_elder", "_law_kind", "_law_stream_here", "_law_names", "_law_notes", "_law_at", "_law_k", "_law_row"]
theorem sc__law_text : FnScope N__law_text ["_law_nodes", "_law_elder", "_law_kind", "_law_stream_here"] (defScope s__law_text) := ⟨rfl, rfl, rfl, by decide +kernel, rfl, by decide +kernel, by decide +kernel⟩
abbrev s__law_item : Stmt := topS 82
abbrev N__law_item : List Str := ["_law_nodes", "_law_elder", "_law_level", "_law_room_here", "_law_stream_here", "_law_kinds", "_law_sides", "_law_kind", "_law_at", "_law_k"]
theorem sc__law_item : FnScope N__law_item ["_law_nodes", "_law_elder", "_law_level", "_law_room_here", "_law_stream_here"] (defScope s__law_item) := ⟨rfl, rfl, rfl, by decide +kernel, rfl, by decide +kernel, by decide +kernel⟩
abbrev s__law_book : Stmt := topS 83
abbrev N__law_book : List Str := ["_law_stream_here", "_law_many", "_law_room_here", "_law_nodes", "_law_k"]
theorem sc__law_book : FnScope N__law_book ["_law_stream_here", "_law_many", "_law_room_here"] (defScope s__law_book) := ⟨rfl, rfl, rfl, by decide +kernel, rfl, by decide +kernel, by decide +kernel⟩
abbrev s__law_wide : Stmt := topS 84
abbrev N__law_wide : List Str := ["_law_nodes", "_law_stream_here", "_law_at", "_law_k"]
theorem sc__law_wide : FnScope N__law_wide ["_law_nodes", "_law_stream_here"] (defScope s__law_wide) := ⟨rfl, rfl, rfl, by decide +kernel, rfl, by decide +kernel, by decide +kernel⟩
abbrev s__law_looks : Stmt := topS 85
abbrev N__law_looks : List Str := ["_law_book_here", "_law_stream_here", "_law_bounds", "_law_found", "_law_node", "_law_look", "_law_low", "_law_great"]
theorem sc__law_looks : FnScope N__law_looks ["_law_book_here", "_law_stream_here"] (defScope s__law_looks) := ⟨rfl, rfl, rfl, by decide +kernel, rfl, by decide +kernel, by decide +kernel⟩
abbrev s__law_faces : Stmt := topS 86
abbrev N__law_faces : List Str := ["_law_stream_here", "_law_found", "_law_k", "_law_odd", "_law_sign"]
theorem sc__law_faces : FnScope N__law_faces ["_law_stream_here"] (defScope s__law_faces) := ⟨rfl, rfl, rfl, by decide +kernel, rfl, by decide +kernel, by decide +kernel⟩
abbrev s__law_shown : Stmt := topS 87
abbrev N__law_shown : List Str := ["_law_book_here", "_law_stream_here", "_law_names", "_law_node", "_law_name"]
theorem sc__law_shown : FnScope N__law_shown ["_law_book_here", "_law_stream_here"] (defScope s__law_shown) := ⟨rfl, rfl, rfl, by decide +kernel, rfl, by decide +kernel, by decide +kernel⟩
abbrev s__law_held : Stmt := topS 88
abbrev N__law_held : List Str := ["_law_book_here", "_law_node", "_law_k"]
theorem sc__law_held : FnScope N__law_held ["_law_book_here", "_law_node"] (defScope s__law_held) := ⟨rfl, rfl, rfl, by decide +kernel, rfl, by decide +kernel, by decide +kernel⟩
abbrev s__law_beside : Stmt := topS 89
abbrev N__law_beside : List Str := ["_law_book_here", "_law_node", "_law_some", "_law_k"]
theorem sc__law_beside : FnScope N__law_beside ["_law_book_here", "_law_node"] (defScope s__law_beside) := ⟨rfl, rfl, rfl, by decide +kernel, rfl, by decide +kernel, by decide +kernel⟩
abbrev s__law_made : Stmt := topS 90
abbrev N__law_made : List Str := ["_law_script", "_law_stream_here", "_law_wide_here", "_law_book_here", "_law_looks_here", "_law_units", "_law_spans"]
theorem sc__law_made : FnScope N__law_made ["_law_script"] (defScope s__law_made) := ⟨rfl, rfl, rfl, by decide +kernel, rfl, by decide +kernel, by decide +kernel⟩
abbrev s__law_room : Stmt := topS 91
abbrev N__law_room : List Str := ["_law_looks_here", "_law_boxes", "_law_node", "_law_inset", "_law_left"]
theorem sc__law_room : FnScope N__law_room ["_law_looks_here", "_law_boxes", "_law_node"] (defScope s__law_room) := ⟨rfl, rfl, rfl, by decide +kernel, rfl, by decide +kernel, by decide +kernel⟩
abbrev s__law_within : Stmt := topS 92
abbrev N__law_within : List Str := ["_law_book_here", "_law_looks_here", "_law_boxes", "_law_node", "_law_elder", "_law_box", "_law_held_here", "_law_left", "_law_right"]
theorem sc__law_within : FnScope N__law_within ["_law_book_here", "_law_looks_here", "_law_boxes", "_law_node"] (defScope s__law_within) := ⟨rfl, rfl, rfl, by decide +kernel, rfl, by decide +kernel, by decide +kernel⟩
abbrev s__law_juts : Stmt := topS 93
abbrev N__law_juts : List Str := ["_law_spans", "_law_boxes", "_law_node"]
theorem sc__law_juts : FnScope N__law_juts ["_law_spans", "_law_boxes", "_law_node"] (defScope s__law_juts) := ⟨rfl, rfl, rfl, by decide +kernel, rfl, by decide +kernel, by decide +kernel⟩
abbrev s__law_meet : Stmt := topS 94
abbrev N__law_meet : List Str := ["_law_one", "_law_other"]
theorem sc__law_meet : FnScope N__law_meet ["_law_one", "_law_other"] (defScope s__law_meet) := ⟨rfl, rfl, rfl, by decide +kernel, rfl, by decide +kernel, by decide +kernel⟩
abbrev s__law_apart : Stmt := topS 95
abbrev N__law_apart : List Str := ["_law_book_here", "_law_spans", "_law_boxes", "_law_one", "_law_other"]
theorem sc__law_apart : FnScope N__law_apart ["_law_book_here", "_law_spans", "_law_boxes", "_law_one", "_law_other"] (defScope s__law_apart) := ⟨rfl, rfl, rfl, by decide +kernel, rfl, by decide +kernel, by decide +kernel⟩
abbrev s__law_rows_beside : Stmt := topS 96
abbrev N__law_rows_beside : List Str := ["_law_book_here", "_law_looks_here", "_law_units", "_law_spans", "_law_sizes", "_law_node", "_law_aside", "_law_high", "_law_count", "_law_width", "_law_row", "_law_first", "_law_last", "_law_room_here", "_law_some", "_law_long", "_law_unit"]
theorem sc__law_rows_beside : FnScope N__law_rows_beside ["_law_book_here", "_law_looks_here", "_law_units", "_law_spans", "_law_sizes", "_law_node"] (defScope s__law_rows_beside) := ⟨rfl, rfl, rfl, by decide +kernel, rfl, by decide +kernel, by decide +kernel⟩
abbrev s_law : Stmt := topS 97
abbrev N_law : List Str := ["_law_script", "_law_book_here", "_law_looks_here", "_law_units", "_law_spans", "_law_sizes", "_law_top", "_law_found", "_law_boxes", "_law_box", "_law_node", "_law_nodes", "_law_some", "_law_other", "_law_one"]
theorem sc_law : FnScope N_law ["_law_script"] (defScope s_law) := ⟨rfl, rfl, rfl, by decide +kernel, rfl, by decide +kernel, by decide +kernel⟩
/-- a def of the program's text, found by its name -/
def DefAt (K : PySem.W.Frag) (mg : Str → Option Value) (x : Str) (st : Stmt) : Prop := ∃ f fd, Fun K x x st f fd ∧ mg x = some (.ref f)
/-- a def with defaults -/
def DefD (K : PySem.W.Frag) (mg : Str → Option Value) (x : Str) (st : Stmt) (dvs : List V) : Prop := ∃ f fd, FunD K x x (defArgs st) (defBody st) (defScope st) dvs [] f fd ∧ mg x = some (.ref f)
structure Top (K : PySem.W.Frag) (mg : Str → Option Value) : Prop where
  d_ask_node : DefAt K mg "ask_node" s_ask_node
  d_holds : DefAt K mg "holds" s_holds
  d_aside_of : DefAt K mg "aside_of" s_aside_of
  d_width_of_row : DefAt K mg "width_of_row" s_width_of_row
  d_blemish_of : DefAt K mg "blemish_of" s_blemish_of
  d_rows_ending : DefAt K mg "rows_ending" s_rows_ending
  d_least_sum : DefAt K mg "least_sum" s_least_sum
  d_all_sums : DefAt K mg "all_sums" s_all_sums
  d_fewest_rows : DefAt K mg "fewest_rows" s_fewest_rows
  d_chosen_rows : DefAt K mg "chosen_rows" s_chosen_rows
  d_is_free : DefAt K mg "is_free" s_is_free
  d_first_place : DefAt K mg "first_place" s_first_place
  d_grid_places : DefAt K mg "grid_places" s_grid_places
  d_grid_highs : DefAt K mg "grid_highs" s_grid_highs
  d_face_at : DefAt K mg "face_at" s_face_at
  d_word_width : DefAt K mg "word_width" s_word_width
  d_widest_figure : DefAt K mg "widest_figure" s_widest_figure
  d_look_at : DefAt K mg "look_at" s_look_at
  d_word_of : DefAt K mg "word_of" s_word_of
  d_piece_wide : DefAt K mg "piece_wide" s_piece_wide
  d_node_units : DefAt K mg "node_units" s_node_units
  d_rows_high : DefAt K mg "rows_high" s_rows_high
  d_text_width : DefAt K mg "text_width" s_text_width
  d_narrow_of : DefAt K mg "narrow_of" s_narrow_of
  d_text_size : DefAt K mg "text_size" s_text_size
  d_tops_in_grid : DefAt K mg "tops_in_grid" s_tops_in_grid
  d_tops_below : DefAt K mg "tops_below" s_tops_below
  d_tops_within : DefAt K mg "tops_within" s_tops_within
  d_size_nodes : DefAt K mg "size_nodes" s_size_nodes
  d_all_sizes : DefAt K mg "all_sizes" s_all_sizes
  d_box_wide : DefAt K mg "box_wide" s_box_wide
  d_insides : DefAt K mg "insides" s_insides
  d_floor_of : DefAt K mg "floor_of" s_floor_of
  d_roof_of : DefAt K mg "roof_of" s_roof_of
  d_units_bounds : DefAt K mg "units_bounds" s_units_bounds
  d_column_bounds : DefAt K mg "column_bounds" s_column_bounds
  d_shelf_bounds : DefAt K mg "shelf_bounds" s_shelf_bounds
  d_grid_bounds : DefAt K mg "grid_bounds" s_grid_bounds
  d_inner_bounds : DefAt K mg "inner_bounds" s_inner_bounds
  d_node_bounds : DefAt K mg "node_bounds" s_node_bounds
  d_all_bounds : DefAt K mg "all_bounds" s_all_bounds
  d_next_place : DefAt K mg "next_place" s_next_place
  d_shares : DefAt K mg "shares" s_shares
  d_room_of : DefAt K mg "room_of" s_room_of
  d_aside_span : DefAt K mg "aside_span" s_aside_span
  d_shelf_needs : DefAt K mg "shelf_needs" s_shelf_needs
  d_side_by_side : DefAt K mg "side_by_side" s_side_by_side
  d_shelf_spans : DefAt K mg "shelf_spans" s_shelf_spans
  d_column_wides : DefAt K mg "column_wides" s_column_wides
  d_grid_spans : DefAt K mg "grid_spans" s_grid_spans
  d_column_spans : DefAt K mg "column_spans" s_column_spans
  d_held_spans : DefAt K mg "held_spans" s_held_spans
  d_all_spans : DefAt K mg "all_spans" s_all_spans
  d__law_stream : DefAt K mg "_law_stream" s__law_stream
  d__law_take : DefAt K mg "_law_take" s__law_take
  d__law_word : DefAt K mg "_law_word" s__law_word
  d__law_pieces : DefAt K mg "_law_pieces" s__law_pieces
  d__law_add : DefAt K mg "_law_add" s__law_add
  d__law_text : DefAt K mg "_law_text" s__law_text
  d__law_item : DefAt K mg "_law_item" s__law_item
  d__law_book : DefAt K mg "_law_book" s__law_book
  d__law_wide : DefAt K mg "_law_wide" s__law_wide
  d__law_looks : DefAt K mg "_law_looks" s__law_looks
  d__law_faces : DefAt K mg "_law_faces" s__law_faces
  d__law_shown : DefAt K mg "_law_shown" s__law_shown
  d__law_held : DefAt K mg "_law_held" s__law_held
  d__law_beside : DefAt K mg "_law_beside" s__law_beside
  d__law_made : DefAt K mg "_law_made" s__law_made
  d__law_room : DefAt K mg "_law_room" s__law_room
  d__law_within : DefAt K mg "_law_within" s__law_within
  d__law_juts : DefAt K mg "_law_juts" s__law_juts
  d__law_meet : DefAt K mg "_law_meet" s__law_meet
  d__law_apart : DefAt K mg "_law_apart" s__law_apart
  d__law_rows_beside : DefAt K mg "_law_rows_beside" s__law_rows_beside
  d_law : DefAt K mg "law" s_law
  d_broken : DefD K mg "broken" s_broken [V.non]
  d_all_units : DefD K mg "all_units" s_all_units [V.bl false]
  c_WITH_UNITS : ∃ u, mg "WITH_UNITS" = some (.ref u) ∧ RelV (.ref u) (.ref u) ∧ KTup K u ["text", "head", "note"]
  c_PROPERTIES : ∃ u, mg "PROPERTIES" = some (.ref u) ∧ RelV (.ref u) (.ref u) ∧ KTup K u ["face", "align", "above", "inset", "weight", "least", "most", "columns", "span", "deep", "side", "wide", "fresh"]
  c_TOO_LONG : ∃ t : Tok, mg "TOO_LONG" = some (.int 1000000 t) ∧ RelV (.int 1000000) (.int 1000000 t) ∧ True
  c_UNKNOWN : ∃ t : Tok, mg "UNKNOWN" = some (.str "?" t) ∧ RelV (.str "?") (.str "?" t) ∧ True
  b_len : mg "len" = none
  b_max : mg "max" = none
  b_min : mg "min" = none
  b_sum : mg "sum" = none
  b_int : mg "int" = none
  b_str : mg "str" = none
  b_list : mg "list" = none
  b_dict : mg "dict" = none
  b_sorted : mg "sorted" = none
  b_set : mg "set" = none
  b_range : mg "range" = none
  b_zip : mg "zip" = none
  b_enumerate : mg "enumerate" = none
  b_reversed : mg "reversed" = none
end LP
end

section
set_option maxHeartbeats 2000000
/-! LpF: a def that keeps its promise (Has), its call (pe_has), short forms for the walks. -/
namespace LP
open PySem PySem.Spec PyProof.Rows L2

theorem bt_len : bootBuiltins "len" = some (.builtin "len") := by decide +kernel
theorem bt_max : bootBuiltins "max" = some (.builtin "max") := by decide +kernel
theorem bt_min : bootBuiltins "min" = some (.builtin "min") := by decide +kernel
theorem bt_sum : bootBuiltins "sum" = some (.builtin "sum") := by decide +kernel
theorem bt_int : bootBuiltins "int" = some (.type "int") := by decide +kernel
theorem bt_str : bootBuiltins "str" = some (.type "str") := by decide +kernel
theorem bt_list : bootBuiltins "list" = some (.type "list") := by decide +kernel
theorem bt_dict : bootBuiltins "dict" = some (.type "dict") := by decide +kernel

/-! ### the layer's rules with the written part named -/
section
variable {X : Cx} {K : PySem.W.Frag}
theorem ix_listK (h : X.K = K) : IxR X (rIxL K) := by subst h; exact ix_list
theorem ix_tupK (h : X.K = K) : IxR X (rIxT K) := by subst h; exact ix_tup
theorem sl_listK (h : X.K = K) : SlR X (rSlL K) := by subst h; exact sl_list
theorem op_inK (h : X.K = K) : OpR X (compareOp .In) (rIn K false) := by subst h; exact op_in_seq
theorem op_niK (h : X.K = K) : OpR X (compareOp .NotIn) (rIn K true) := by subst h; exact op_notIn_seq
theorem op_neDK (h : X.K = K) (hu : X.A.units + 64 < cLine) : OpR X (compareOp .NotEq) (rNeD K) := by subst h; exact op_neD hu
theorem call_lenK (h : X.K = K) : CallR X (.builtin "len") (fun xs H Q => ∃ p ys, xs = [.ref p] ∧ (SqL K H p ys ∨ SqT K H p ys) ∧ Q (.int ys.length) H) := by subst h; exact call_len_seq
theorem call_listK (h : X.K = K) : CallR X (.type "list") (fun xs H Q => ∃ p ys, xs = [.ref p] ∧ (SqL K H p ys ∨ SqT K H p ys) ∧ ∀ l, H l = none → Q (.ref l) (upd H l (.lst ys))) := by subst h; exact call_list_of
theorem cr_sumK (h : X.K = K) (hc : X.calm = true) : CallR X (.builtin "sum") (rSum K) := by subst h; exact cr_sum hc
theorem cr_maxK (h : X.K = K) (hc : X.calm = true) : CallR X (.builtin "max") (rMax K) := by subst h; exact cr_max hc
theorem mt_indexK (h : X.K = K) : MtR X "list.index" (rIndex K) := by subst h; exact mt_index
theorem mt_tupIndexK (h : X.K = K) : MtR X "tuple.index" (fun x xs H Q => ∃ p, ∃ ys : List Str, ∃ z j, x = .ref p ∧ xs = [.str z] ∧ SqT K H p (ys.map V.str) ∧ ys[j]? = some z ∧ (∀ m, m < j → ys[m]? ≠ some z) ∧ Q (.int (j : Nat)) H) := by subst h; exact mt_tup_index
def rDictP (K : PySem.W.Frag) : List V → Hp → VK → Prop := fun xs H Q => ∃ (a : Addr) (ps : List Addr) (kvs : List (Key × V)), xs = [.ref a] ∧ SqL K H a (ps.map V.ref) ∧ Paired (fun p kv => SqT K H p [kV kv.1, kv.2]) ps kvs ∧ ∀ p, H p = none → Q (.ref p) (upd H p (.dK (mergeK [] kvs)))
theorem wc_dict {ρ : Rho} {mu : List Ct} {Φ : SV → List Ct → Prop} {x : SV} {prs : List (Key × D)} (hx : IsL mu x (prs.map fun p => .tup [keyD p.1, p.2])) (q : Φ (.ob mu.length) (mu ++ [.dK (dictD prs) prs.length])) : WC K (rDictP K) [x] ρ mu Φ := fun g H ad σ vs Q S hs k => by
  obtain ⟨v, rfl, hv⟩ := one_sv hs
  obtain ⟨a, vs, rfl, e2, r⟩ := hx.got S hv
  obtain ⟨ps, kvs, rfl, h1, h2⟩ := pairs_got pub_same r
  refine ⟨a, ps, kvs, rfl, SqL.of e2, h1, fun p hp => ?_⟩
  have c0 : CtOk K (pub (Mx g.M ad) H) p (.dK []) (.dK (fun _ => none) 0) := ⟨[], rfl, Nat.le_refl _, fun k => ⟨fun _ => rfl, fun _ => rfl⟩, fun k v d h => by cases h⟩
  obtain ⟨S2, e4⟩ := S.allocM (o := .dK (mergeK [] kvs)) (c := .dK (dictD prs) prs.length) hp (by have := ct_merge h2 c0; rw [Nat.zero_add] at this; exact this)
  exact k _ _ _ _ _ S2 (sv_new S.mu.len) q
theorem call_dictK (h : X.K = K) (hc : X.calm = true) : CallR X (.type "dict") (rDictP K) := by subst h; exact call_dictP hc
theorem pi_listK {tg l : Expr} {tl : TE} (h : X.K = K) (hl : PE X l tl) : PI X tg l (iList K tl) := by subst h; exact pi_list hl
theorem pi_enumK {e : Expr} {ta : TA} {p pos tpos : Pos} {elts : List Expr} {kk : Nat} (h : X.K = K) (hg : Gl X "enumerate") (hm : X.mg "enumerate" = none) (ha : PA X [e] ta) (hs : starEach [e] X.env = [(false, eval e X.env)] := by rfl) :
    PI X (.Tuple elts kk tpos) (.Call (.Name "enumerate" p) [e] [] pos) (iEnum K ta) := by subst h; exact pi_enum hg hm ha hs
theorem pi_zipK {e e2 : Expr} {ta : TA} {p pos tpos : Pos} {elts : List Expr} {kk : Nat} (h : X.K = K) (hg : Gl X "zip") (hm : X.mg "zip" = none) (ha : PA X [e, e2] ta)
    (hs : starEach [e, e2] X.env = (false, eval e X.env) :: starEach [e2] X.env := by rfl) (hpl : (backTo pos (starEach [e2] X.env)).any (·.1) = false := by rfl) :
    PI X (.Tuple elts kk tpos) (.Call (.Name "zip" p) [e, e2] [] pos) (iZip K ta) := by subst h; exact pi_zip hg hm ha hs hpl
theorem pg_tupK {es : List Expr} {k : Nat} {t : TGs} {n : Nat} {pos : Pos} (h : X.K = K) (hc : X.calm = true) (ht : PGs X es t)
    (hn : (assignEach es X.env).length = n := by rfl) (hst : (assignEach es X.env).findIdx? (·.1) = none := by rfl) : PG X (.Tuple es k pos) (gTup K n t) := by subst h; exact pg_tup hc ht hn hst
theorem pg_unlK {es : List Expr} {k : Nat} {t : TGs} {n : Nat} {pos : Pos} (h : X.K = K) (hc : X.calm = true) (ht : PGs X es t)
    (hn : (assignEach es X.env).length = n := by rfl) (hst : (assignEach es X.env).findIdx? (·.1) = none := by rfl) : PG X (.Tuple es k pos) (gUnl K n t) := by subst h; exact pg_unl hc ht hn hst
theorem pe_bmK {T id : String} {name : Str} {r : V → List V → Hp → VK → Prop} {o e : Expr} {es : List Expr} {to : TE} {t : TA} {apos cpos : Pos} (h : X.K = K) (pa : PlainAttrs T) (slot : Slot T name id) (hty : typeOf (.builtin id) = pure (.type "method_descriptor")) (hm : MtR X id r) (ho : PE X o to) (ha : PA X (e :: es) t)
    (hbase : attributeBase o name X.env (eval o X.env) = eval o X.env := by rfl)
    (hfew : ((backTo cpos (starEach (e :: es) X.env)).all (fun x => !x.1) && (backToKw cpos (keywordEach [] X.env)).all (fun x => x.1.isSome)
      && decide ((e :: es).length + ([] : List Keyword).length + (if ([] : List Keyword).isEmpty then 0 else 1) < 30)) = true := by rfl)
    (hline : (apos.endLine == cpos.line) = true := by rfl) (hs : starEach (e :: es) X.env = (false, eval e X.env) :: starEach es X.env := by rfl) (hplain : (backTo cpos (starEach es X.env)).any (·.1) = false := by rfl) :
    PE X (.Call (.Attribute o name apos) (e :: es) [] cpos) (tBM K T r to t) := by subst h; exact pe_bm pa slot hty hm ho ha hbase hfew hline hs hplain
end

/-- the def of that name keeps this promise, k calls deep at most -/
def Has (P : Program) (w : World) (K : PySem.W.Frag) (mg : Str → Option Value) (base : Heap) (k : Nat) (x : Str) (ps : List Str) (sp : Sp) : Prop :=
  ∃ f fd, FnOk P w K mg base CX0 k f fd ps sp ∧ mg x = some (.ref f) ∧ PySem.W.keepIn K (.ref f) = true ∧ Binds K fd ps []
theorem pe_has {X : Cx} {k j : Nat} {x : Str} {ps : List Str} {sp : Sp} {e : Expr} {es : List Expr} {t : TA} {p pos : Pos} (h : Has X.prog X.w X.K X.mg X.base j x ps sp) (hr : Room k X.A) (hk : j ≤ k) (hg : Gl X x) (ha : PA X (e :: es) t)
    (hdb : (x == ("__debug__" : Str)) = false := by decide) (he : starEach (e :: es) X.env = (false, eval e X.env) :: starEach es X.env := by rfl) (hpl : (backTo pos (starEach es X.env)).any (·.1) = false := by rfl) :
    PE X (.Call (.Name x p) (e :: es) [] pos) (tCall sp [] E0 t) := by
  obtain ⟨f, fd, F, hm, kp, hb⟩ := h
  exact pe_call F (hr.mono hk) hg hm kp hb .nil pass0 ha hdb he hpl
section
variable {P : Program} {w : World} {K : PySem.W.Frag} {mg : Str → Option Value} {base : Heap} {γ : Type} {S : Spec γ}
theorem Has.mono {j k : Nat} {x : Str} {ps : List Str} {sp : Sp} (h : Has P w K mg base j x ps sp) (hk : j ≤ k) : Has P w K mg base k x ps sp := by
  obtain ⟨f, fd, F, r⟩ := h
  exact ⟨f, fd, F.mono hk, r⟩
theorem has_ok {x : Str} {st : Stmt} {N ps : List Str} {k : Nat} (D : DefAt K mg x st) (C : FnScope N ps (defScope st)) (len : ∀ y, (S.args y).length = ps.length)
    (hb : ∀ (kV doc pm : Value) (an : Option Addr) (cdv ct : Value) (us : List Value), us.length = ps.length → bindArgs (PySem.W.fnOf x x (defArgs st) (defBody st) (defScope st) .none kV doc pm an cdv ct) ⟨us, []⟩ = pure (ps.zip us))
    (hbody : ∀ (f : Addr) (cdv : Value) (A : Around) (outer : List Env) (s : Shared) (H : Hp) (E : XK), Room k (A.deeper (envOfC x (defScope st) s.heap.objs.size f cdv)) →
      ∃ t, PSs (cxOf CX0 P w K mg base N x (defScope st) f cdv A outer s H E).nox (defBody st) t ∧
        ∀ y, S.pre y → WS K (S.mu y).length t (startR N (S.args y)) (S.mu y) { nx := fun _ mu => S.post y (.dat .non) (mu.take (S.mu y).length), rt := fun s mu => S.post y s mu }) : Has P w K mg base (k + 1) x ps (spG K S) := by
  obtain ⟨f, fd, F, hm⟩ := D
  exact ⟨f, fd, fun_ok F C len (fun cdv A outer s H E hr => hbody f cdv A outer s H E hr), hm, F.kp, F.binds hb⟩
end

section
variable {P : Program} {w : World} {K : PySem.W.Frag} {mg : Str → Option Value} {base : Heap} {γ : Type} {S : Spec γ}
theorem has_okD {x : Str} {st : Stmt} {N ps : List Str} {k : Nat} (D : DefD K mg x st [V.non]) (C : FnScope N ps (defScope st)) (len : ∀ y, (S.args y).length = ps.length)
    (hb : ∀ (T : Addr) (kV doc pm : Value) (an : Option Addr) (cdv ct : Value) (us its : List Value), us.length = ps.length → its.length = 1 → ∃ k, bindArgs (PySem.W.fnOf x x (defArgs st) (defBody st) (defScope st) (.ref T) kV doc pm an cdv ct) ⟨us, []⟩ = seqItems? (.ref T) >>= k ∧ k (some its.toArray) = pure (ps.zip (us ++ its.drop 1)))
    (hbody : ∀ (f : Addr) (cdv : Value) (A : Around) (outer : List Env) (s : Shared) (H : Hp) (E : XK), Room k (A.deeper (envOfC x (defScope st) s.heap.objs.size f cdv)) →
      ∃ t, PSs (cxOf CX0 P w K mg base N x (defScope st) f cdv A outer s H E).nox (defBody st) t ∧
        ∀ y, S.pre y → WS K (S.mu y).length t (startR N (S.args y)) (S.mu y) { nx := fun _ mu => S.post y (.dat .non) (mu.take (S.mu y).length), rt := fun s mu => S.post y s mu }) : Has P w K mg base (k + 1) x ps (spG K S) := by
  obtain ⟨f, fd, F, hm⟩ := D
  obtain ⟨ds, hd, hB⟩ := F.binds1 (ps := ps) ps.length 1 (by simp) (by simp) (fun T kV doc pm an cdv ct us its h1 h2 => hb T kV doc pm an cdv ct us its h1 (by simpa using h2))
  have e : ds = [] := by cases hd; rfl
  subst e
  exact ⟨f, fd, fun_okD F C len (fun cdv A outer s H E hr => hbody f cdv A outer s H E hr), hm, F.kp, hB⟩
/-- the same of a def whose last parameter is left out -/
def HasD (P : Program) (w : World) (K : PySem.W.Frag) (mg : Str → Option Value) (base : Heap) (k : Nat) (x : Str) (ps : List Str) (dvs : List V) (sp : Sp) : Prop :=
  ∃ f fd ds, FnOk P w K mg base CX0 k f fd ps sp ∧ mg x = some (.ref f) ∧ PySem.W.keepIn K (.ref f) = true ∧ Binds K fd ps ds ∧ Vals dvs ds
theorem HasD.mono {j k : Nat} {x : Str} {ps : List Str} {dvs : List V} {sp : Sp} (h : HasD P w K mg base j x ps dvs sp) (hk : j ≤ k) : HasD P w K mg base k x ps dvs sp := by
  obtain ⟨f, fd, ds, F, r⟩ := h
  exact ⟨f, fd, ds, F.mono hk, r⟩
theorem has_okD1 {x : Str} {st : Stmt} {N ps : List Str} {v : V} {k : Nat} (D : DefD K mg x st [v]) (C : FnScope N ps (defScope st)) (len : ∀ y, (S.args y).length = ps.length)
    (hb : ∀ (T : Addr) (kV doc pm : Value) (an : Option Addr) (cdv ct : Value) (us its : List Value), us.length + 1 = ps.length → its.length = 1 → ∃ k, bindArgs (PySem.W.fnOf x x (defArgs st) (defBody st) (defScope st) (.ref T) kV doc pm an cdv ct) ⟨us, []⟩ = seqItems? (.ref T) >>= k ∧ k (some its.toArray) = pure (ps.zip (us ++ its)))
    (hbody : ∀ (f : Addr) (cdv : Value) (A : Around) (outer : List Env) (s : Shared) (H : Hp) (E : XK), Room k (A.deeper (envOfC x (defScope st) s.heap.objs.size f cdv)) →
      ∃ t, PSs (cxOf CX0 P w K mg base N x (defScope st) f cdv A outer s H E).nox (defBody st) t ∧
        ∀ y, S.pre y → WS K (S.mu y).length t (startR N (S.args y)) (S.mu y) { nx := fun _ mu => S.post y (.dat .non) (mu.take (S.mu y).length), rt := fun s mu => S.post y s mu }) (h0 : 0 < ps.length := by decide) : HasD P w K mg base (k + 1) x ps [v] (spG K S) := by
  obtain ⟨f, fd, F, hm⟩ := D
  obtain ⟨ds, hd, hB⟩ := F.binds1 (ps := ps) (ps.length - 1) 0 (by simp) (by simp; omega) (fun T kV doc pm an cdv ct us its h1 h2 => hb T kV doc pm an cdv ct us its (by omega) (by simpa using h2))
  exact ⟨f, fd, ds, fun_okD F C len (fun cdv A outer s H E hr => hbody f cdv A outer s H E hr), hm, F.kp, hB, hd⟩
theorem pe_hasD {X : Cx} {k j : Nat} {x : Str} {ps : List Str} {dvs : List V} {sp : Sp} {e : Expr} {es : List Expr} {t : TA} {p pos : Pos} (h : HasD X.prog X.w X.K X.mg X.base j x ps dvs sp) (hr : Room k X.A) (hk : j ≤ k) (hg : Gl X x) (ha : PA X (e :: es) t)
    (hdb : (x == ("__debug__" : Str)) = false := by decide) (he : starEach (e :: es) X.env = (false, eval e X.env) :: starEach es X.env := by rfl) (hpl : (backTo pos (starEach es X.env)).any (·.1) = false := by rfl) :
    PE X (.Call (.Name x p) (e :: es) [] pos) (tCall sp dvs E0 t) := by
  obtain ⟨f, fd, ds, F, hm, kp, hb, hv⟩ := h
  exact pe_call F (hr.mono hk) hg hm kp hb hv pass0 ha hdb he hpl
/-- data go in, a value is filled in behind them -/
theorem we_callD {P : PSpec γ} {ρ : Rho} {mu : List Ct} {Φ : SV → List Ct → Prop} {t : TA} {E : XK} {v0 : V} {d0 : D} (h0 : ∀ G, Rep K G v0 d0) (h : WA K t ρ mu fun ss mu' => ∃ x, ss ++ [.dat d0] = (P.args x).map .dat ∧ P.pre x ∧ ∀ d, P.post x d → Φ (.dat d) mu') : WE K (tCall (spG K P.S) [v0] E t) ρ mu Φ := by
  have q : WE K (tCall (spG K P.S) [] E (fun σ H Q => t σ H fun vs H1 => Q (vs ++ [v0]) H1)) ρ mu Φ := by
    refine we_call (fun g H ad σ Q S k => h g H ad σ _ S fun vs ss H1 ad1 mu1 S1 hs z => k (vs ++ [v0]) (ss ++ [.dat d0]) H1 ad1 mu1 S1 (hs.append (.cons (sv_d (h0 _)) .nil)) z)
  intro g H ad σ Q S k
  have z := q g H ad σ Q S k
  unfold tCall at z ⊢
  simpa using z
end
/-! ### short forms -/
theorem toD_d {d : D} : (SV.dat d).toD = d := rfl
theorem toD_o {i : Nat} : (SV.ob i).toD = .any := rfl
theorem lset0 {α : Type} {x y : α} {xs : List α} : (x :: xs).set 0 y = y :: xs := rfl
theorem lsetS {α : Type} {x y : α} {xs : List α} {n : Nat} : (x :: xs).set (n + 1) y = x :: xs.set n y := rfl
theorem lenc0 : ([] : List Ct).length = 0 := rfl
theorem lencS {c : Ct} {cs : List Ct} : (c :: cs).length = cs.length + 1 := rfl
theorem appc0 {cs : List Ct} : [] ++ cs = cs := rfl
theorem appcS {c : Ct} {cs ds : List Ct} : (c :: cs) ++ ds = c :: (cs ++ ds) := rfl
theorem ap1 {mu : List Ct} {m : Nat} {ds0 : List D} {A : Nat → Prop} (h0 : mu[m]? = some (.lst ds0)) (h : A m) : ∃ m' ds0', SV.ob m = .ob m' ∧ mu[m']? = some (.lst ds0') ∧ A m' := ⟨m, ds0, rfl, h0, h⟩
theorem ap2 {mu : List Ct} {m : Nat} {x : SV} {ds : List D} {B : SV → List D → Prop} (h0 : mu[m]? = some (.lst ds)) (hl : ds.length < 1000000) (q : B x ds) : ∃ x' ds', [x] = [x'] ∧ mu[m]? = some (.lst ds') ∧ ds'.length < 1000000 ∧ B x' ds' := ⟨x, ds, rfl, h0, hl, q⟩
theorem mapd0 : List.map SV.dat [] = [] := rfl
theorem mapdS {d : D} {ds : List D} : List.map SV.dat (d :: ds) = SV.dat d :: List.map SV.dat ds := rfl
theorem wipe0 {ρ : Rho} : wipeR ρ [] = ρ := rfl
theorem wipeS {ρ : Rho} {v : Nat} {vs : List Nat} : wipeR ρ (v :: vs) = (wipeR ρ vs).set v none := rfl
section
variable {K : PySem.W.Frag} {ρ : Rho} {mu : List Ct} {Φ : SV → List Ct → Prop} {t0 t1 t2 t3 t4 t5 t6 t7 : TE} {n : Nat} {E : En}
theorem bo {b : Bool} {Ψ : Bool → Prop} (h : Ψ b) : ∃ b', SV.dat (.bl b) = .dat (.bl b') ∧ Ψ b' := ⟨b, rfl, h⟩
theorem io {i : Int} {Ψ : Int → Prop} (h : Ψ i) : ∃ i', SV.dat (.int i) = .dat (.int i') ∧ Ψ i' := ⟨i, rfl, h⟩
theorem lo {ds : List D} {Ψ : List D → Prop} (h : Ψ ds) : ∃ l, SV.dat (.lst ds) = .dat (.lst l) ∧ Ψ l := ⟨ds, rfl, h⟩
theorem so {z : Str} {Ψ : Str → Prop} (h : Ψ z) : ∃ l, SV.dat (.str z) = .dat (.str l) ∧ Ψ l := ⟨z, rfl, h⟩
theorem ifd {p A B : Prop} [Decidable p] (h1 : p → A) (h2 : ¬ p → B) : (decide p = true → A) ∧ (decide p = false → B) := ⟨fun h => h1 (of_decide_eq_true h), fun h => h2 (of_decide_eq_false h)⟩
theorem ifn {p A B : Prop} [Decidable p] (h1 : ¬ p → A) (h2 : p → B) : ((!decide p) = true → A) ∧ ((!decide p) = false → B) := ⟨fun h => h1 (by simpa using h), fun h => h2 (by simpa using h)⟩
theorem ift {A B : Prop} (h : A) : (true = true → A) ∧ (true = false → B) := ⟨fun _ => h, fun z => (by cases z)⟩
theorem iff' {A B : Prop} (h : B) : (false = true → A) ∧ (false = false → B) := ⟨fun z => (by cases z), fun _ => h⟩
theorem ifb {A B : Prop} {b : Bool} (h1 : b = true → A) (h2 : b = false → B) : (b = true → A) ∧ (b = false → B) := ⟨h1, h2⟩
theorem we_tup1 (h : WE K t0 ρ mu fun x mu1 => Φ (.dat (.tup [x.toD])) mu1) : WE K (tTup (tCons t0 tNil)) ρ mu Φ := we_tup (wa_cons (we_mono h fun x m h => wa_nil ⟨Nat.le_of_ble_eq_true rfl, h⟩))
theorem we_tup2 (h : WE K t0 ρ mu fun x mu1 => WE K t1 ρ mu1 fun y mu2 => Φ (.dat (.tup [x.toD, y.toD])) mu2) : WE K (tTup (tCons t0 (tCons t1 tNil))) ρ mu Φ :=
  we_tup (wa_cons (we_mono h fun x m h => wa_cons (we_mono h fun y m h => wa_nil ⟨Nat.le_of_ble_eq_true rfl, h⟩)))
theorem we_tup3 (h : WE K t0 ρ mu fun x mu1 => WE K t1 ρ mu1 fun y mu2 => WE K t2 ρ mu2 fun z mu3 => Φ (.dat (.tup [x.toD, y.toD, z.toD])) mu3) : WE K (tTup (tCons t0 (tCons t1 (tCons t2 tNil)))) ρ mu Φ :=
  we_tup (wa_cons (we_mono h fun x m h => wa_cons (we_mono h fun y m h => wa_cons (we_mono h fun z m h => wa_nil ⟨Nat.le_of_ble_eq_true rfl, h⟩))))
theorem we_tup4 (h : WE K t0 ρ mu fun x mu1 => WE K t1 ρ mu1 fun y mu2 => WE K t2 ρ mu2 fun z mu3 => WE K t3 ρ mu3 fun u mu4 => Φ (.dat (.tup [x.toD, y.toD, z.toD, u.toD])) mu4) : WE K (tTup (tCons t0 (tCons t1 (tCons t2 (tCons t3 tNil))))) ρ mu Φ :=
  we_tup (wa_cons (we_mono h fun x m h => wa_cons (we_mono h fun y m h => wa_cons (we_mono h fun z m h => wa_cons (we_mono h fun u m h => wa_nil ⟨Nat.le_of_ble_eq_true rfl, h⟩)))))
theorem we_tup5 (h : WE K t0 ρ mu fun x mu1 => WE K t1 ρ mu1 fun y mu2 => WE K t2 ρ mu2 fun z mu3 => WE K t3 ρ mu3 fun u mu4 => WE K t4 ρ mu4 fun v mu5 => Φ (.dat (.tup [x.toD, y.toD, z.toD, u.toD, v.toD])) mu5) : WE K (tTup (tCons t0 (tCons t1 (tCons t2 (tCons t3 (tCons t4 tNil)))))) ρ mu Φ :=
  we_tup (wa_cons (we_mono h fun x m h => wa_cons (we_mono h fun y m h => wa_cons (we_mono h fun z m h => wa_cons (we_mono h fun u m h => wa_cons (we_mono h fun v m h => wa_nil ⟨Nat.le_of_ble_eq_true rfl, h⟩))))))
theorem we_lst0 (h : Φ (.dat (.lst [])) mu) : WE K (tLst tNil) ρ mu Φ := we_lst (wa_nil ⟨Nat.zero_le _, h⟩)
theorem we_lst1 (h : WE K t0 ρ mu fun x mu1 => Φ (.dat (.lst [x.toD])) mu1) : WE K (tLst (tCons t0 tNil)) ρ mu Φ := we_lst (wa_cons (we_mono h fun x m h => wa_nil ⟨Nat.le_of_ble_eq_true rfl, h⟩))
theorem we_lst2 (h : WE K t0 ρ mu fun x mu1 => WE K t1 ρ mu1 fun y mu2 => Φ (.dat (.lst [x.toD, y.toD])) mu2) : WE K (tLst (tCons t0 (tCons t1 tNil))) ρ mu Φ :=
  we_lst (wa_cons (we_mono h fun x m h => wa_cons (we_mono h fun y m h => wa_nil ⟨Nat.le_of_ble_eq_true rfl, h⟩)))
theorem we_lstM0 (h : Φ (.ob mu.length) (mu ++ [.lst []])) : WE K (tLst tNil) ρ mu Φ := we_lstM (wa_nil ⟨Nat.zero_le _, h⟩)
theorem we_lstM1 (h : WE K t0 ρ mu fun x mu1 => Φ (.ob mu1.length) (mu1 ++ [.lst [x.toD]])) : WE K (tLst (tCons t0 tNil)) ρ mu Φ := we_lstM (wa_cons (we_mono h fun x m h => wa_nil ⟨Nat.le_of_ble_eq_true rfl, h⟩))
theorem we_lstM2 (h : WE K t0 ρ mu fun x mu1 => WE K t1 ρ mu1 fun y mu2 => Φ (.ob mu2.length) (mu2 ++ [.lst [x.toD, y.toD]])) : WE K (tLst (tCons t0 (tCons t1 tNil))) ρ mu Φ :=
  we_lstM (wa_cons (we_mono h fun x m h => wa_cons (we_mono h fun y m h => wa_nil ⟨Nat.le_of_ble_eq_true rfl, h⟩)))
/-- what holds behind a statement, named -/
theorem ws_mid {ts : TS} (M : Rho → List Ct → Prop) (h : WS K n ts ρ mu { E with nx := M }) (k : ∀ ρ1 mu1, M ρ1 mu1 → E.nx ρ1 mu1) : WS K n ts ρ mu E := fun g H ad σ D hn S k1 k2 k3 k4 =>
  h g H ad σ D hn S (fun σ' ρ' H' ad' mu' S' q => k1 σ' ρ' H' ad' mu' S' (k _ _ q)) k2 k3 k4
/-! ### comprehensions that change nothing -/
def fltD (n : Nat) (p : Nat → Bool) (f : Nat → D) : List D := ((List.range n).filter p).map f
theorem fltD_succ {n : Nat} {p : Nat → Bool} {f : Nat → D} : fltD (n + 1) p f = if p n = true then fltD n p f ++ [f n] else fltD n p f := by
  unfold fltD
  rw [List.range_succ, List.filter_append, List.map_append]
  by_cases h : p n = true
  · rw [if_pos h, List.filter_cons, if_pos h]; rfl
  · rw [if_neg h, List.filter_cons, if_neg h]; simp
theorem wi_mono {wi : TI} {Ψ Ψ' : List D → List Ct → Prop} (h : WI K wi ρ mu Ψ') (q : ∀ xs m, Ψ' xs m → Ψ xs m) : WI K wi ρ mu Ψ := fun g H ad σ R S k => h g H ad σ R S fun J H' ad' mu' xs S' hJ z => k J H' ad' mu' xs S' hJ (q xs mu' z)
theorem wg_mono {tg : TG} {s : SV} {Ψ Ψ' : Rho → List Ct → Prop} (h : WG K tg s ρ mu Ψ') (q : ∀ r m, Ψ' r m → Ψ r m) : WG K tg s ρ mu Ψ := fun g H ad σ v Q S hv k => h g H ad σ v Q S hv fun σ' ρ' H' ad' mu' S' z => k σ' ρ' H' ad' mu' S' (q ρ' mu' z)
theorem wt_mono {tt : TT} {Ψ Ψ' : Bool → List Ct → Prop} (h : WT K tt ρ mu Ψ') (q : ∀ b m, Ψ' b m → Ψ b m) : WT K tt ρ mu Ψ := fun g H ad σ Q S k => h g H ad σ Q S fun b H' ad' mu' S' z => k b H' ad' mu' S' (q b mu' z)
theorem we_lcPE {wi : TI} {tg : TG} {vs : List Nat} {tt : TT} {te : TE} (hg : GIn tg vs) (h : WI K wi ρ mu fun xs mu1 => ∃ (p : Nat → Bool) (f : Nat → D), xs.length ≤ 1000000 ∧ mu1 = mu ∧
    (∀ (i : Nat) (d : D), xs[i]? = some d → WG K tg (.dat d) (wipeR ρ vs) mu fun ρ2 mu2 => WT K tt ρ2 mu2 fun b mu3 => mu3 = mu ∧ b = p i ∧ (b = true → WE K te ρ2 mu fun s mu4 => mu4 = mu ∧ s.toD = f i)) ∧
    Φ (.dat (.lst (fltD xs.length p f))) mu) : WE K (tLc wi tg tt te vs) ρ mu Φ := by
  refine we_lcE hg (wi_mono h ?_)
  rintro xs mu1 ⟨p, f, h1, rfl, h2, h3⟩
  refine ⟨fun i ys m => m = mu1 ∧ ys = fltD i p f, ⟨rfl, rfl⟩, fun i d ys mu2 hx ⟨e1, e2⟩ _ => ?_, fun ys mu2 ⟨e1, e2⟩ _ => ?_⟩
  · subst e1
    refine wg_mono (h2 i d hx) fun ρ2 mu3 q => wt_mono q ?_
    rintro b mu4 ⟨rfl, rfl, hb⟩
    have hi : i < xs.length := (List.getElem?_eq_some_iff.mp hx).1
    cases z : p i with
    | true =>
      rw [if_pos rfl]
      refine we_mono (hb z) ?_
      rintro s mu5 ⟨rfl, e⟩
      exact ⟨by omega, rfl, by rw [fltD_succ, if_pos z, e2, e]⟩
    | false =>
      rw [if_neg (by decide)]
      exact ⟨rfl, by rw [fltD_succ, if_neg (by rw [z]; decide), e2]⟩
  · subst e1; subst e2; exact h3
theorem we_lcP {wi : TI} {tg : TG} {vs : List Nat} {tt : TT} {te : TE} (p : Nat → Bool) (f : Nat → D) (hg : GIn tg vs) (h : WI K wi ρ mu fun xs mu1 => xs.length ≤ 1000000 ∧ mu1 = mu ∧
    (∀ (i : Nat) (d : D), xs[i]? = some d → WG K tg (.dat d) (wipeR ρ vs) mu fun ρ2 mu2 => WT K tt ρ2 mu2 fun b mu3 => mu3 = mu ∧ b = p i ∧ (b = true → WE K te ρ2 mu fun s mu4 => mu4 = mu ∧ s.toD = f i)) ∧
    Φ (.dat (.lst (fltD xs.length p f))) mu) : WE K (tLc wi tg tt te vs) ρ mu Φ := we_lcPE hg (wi_mono h fun xs m q => ⟨p, f, q⟩)
/-- no test: every item gives one -/
theorem fltD_all (n : Nat) (f : Nat → D) : fltD n (fun _ => true) f = (List.range n).map f := by
  unfold fltD
  rw [List.filter_eq_self.mpr (fun _ _ => rfl)]
theorem map_got {α β : Type} {f : α → β} {xs : List α} {i : Nat} {d : β} (h : (xs.map f)[i]? = some d) : ∃ x, xs[i]? = some x ∧ d = f x := by
  rw [List.getElem?_map] at h
  cases q : xs[i]? with
  | none => rw [q] at h; cases h
  | some x => rw [q] at h; cases h; exact ⟨x, rfl, rfl⟩
theorem rng_map {α β : Type} (xs : List α) (f : α → β) (g : Nat → β) (h : ∀ i x, xs[i]? = some x → g i = f x) : (List.range xs.length).map g = xs.map f := by
  apply List.ext_getElem?
  intro i
  rw [List.getElem?_map, List.getElem?_map]
  by_cases hi : i < xs.length
  · have hx : xs[i]? = some xs[i] := List.getElem?_eq_getElem hi
    rw [List.getElem?_range hi, hx]
    exact congrArg some (h i _ hx)
  · rw [List.getElem?_eq_none (by rw [List.length_range]; omega), List.getElem?_eq_none (by omega)]; rfl
/-- [e for x in xs], each e of its item alone -/
theorem we_lcM {α : Type} {wi : TI} {tg : TG} {vs : List Nat} {te : TE} (hg : GIn tg vs) (h : WI K wi ρ mu fun ds mu1 => ∃ (xs : List α) (en : α → D) (f : α → D), ds = xs.map en ∧ xs.length ≤ 1000000 ∧ mu1 = mu ∧
    (∀ (i : Nat) (x : α), xs[i]? = some x → WG K tg (.dat (en x)) (wipeR ρ vs) mu fun ρ2 mu2 => mu2 = mu ∧ WE K te ρ2 mu fun s mu4 => mu4 = mu ∧ s.toD = f x) ∧
    Φ (.dat (.lst (xs.map f))) mu) : WE K (tLc wi tg tYes te vs) ρ mu Φ := by
  refine we_lcPE hg (wi_mono h ?_)
  rintro ds mu1 ⟨xs, en, f, rfl, h1, rfl, h2, h3⟩
  refine ⟨fun _ => true, fun i => match xs[i]? with | some x => f x | none => .non, by rw [List.length_map]; exact h1, rfl, fun i d hd => ?_, ?_⟩
  · obtain ⟨x, hx, rfl⟩ := map_got hd
    refine wg_mono (h2 i x hx) ?_
    rintro r m ⟨rfl, q⟩
    refine wt_yes ⟨rfl, rfl, fun _ => we_mono q ?_⟩
    rintro s m ⟨rfl, e⟩
    exact ⟨rfl, by simp only [hx]; exact e⟩
  · rw [fltD_all, List.length_map, rng_map xs f _ fun i x hx => by simp only [hx]]
    exact h3
end
end LP
end

section
set_option maxHeartbeats 2000000
/-! LpV: the defs and names of the program's top, one lemma for each kind; the walk's end. -/
namespace LP
open PySem PySem.Spec PyProof.Rows L2
section
variable {K : PySem.W.Frag} {h : Heap} {mg : Str → Option Value} {x : Str} {f T : Addr} {oc kV dc pm cd ct tc v : Value} {od an td : Option Addr} {sl ts : Array (Option Value)} {st : Stmt}
theorem defAt_mk (X : K.In h) (G : h.Ns mainGlobals mg) (a : PySem.W.nsIn K mainGlobals x = some (some (.ref f)))
    (l : K.lookup f = some ⟨oc, od, .func (PySem.W.fnOf x x (defArgs st) (defBody st) (defScope st) .none kV dc pm an cd ct), sl⟩) (c : PySem.W.codeIn K cd x = true) (k : PySem.W.keepIn K (.ref f) = true) : DefAt K mg x st :=
  ⟨f, _, fun_mk l c k, PySem.W.mg_of X G a⟩
theorem defD_mk {dvs : List V} {its : Array Value} {n : Nat} (X : K.In h) (G : h.Ns mainGlobals mg) (a : PySem.W.nsIn K mainGlobals x = some (some (.ref f)))
    (l : K.lookup f = some ⟨oc, od, .func (PySem.W.fnOf x x (defArgs st) (defBody st) (defScope st) (.ref T) kV dc pm an cd ct), sl⟩) (c : PySem.W.codeIn K cd x = true) (k : PySem.W.keepIn K (.ref f) = true)
    (t : K.lookup T = some ⟨tc, td, .seq its n, ts⟩) (r : Vals dvs its.toList) (ne : dvs ≠ []) : DefD K mg x st dvs :=
  ⟨f, _, ⟨⟨oc, od, .ref T, kV, dc, pm, an, cd, ct, sl, rfl, l, c, .inr ⟨ne, T, _, its.toList, n, rfl, t, by rw [Array.toArray_toList], r⟩, .inl rfl⟩, k⟩, PySem.W.mg_of X G a⟩
theorem ktup_mk {ss : List Str} {its : Array Value} {n : Nat} (X : K.In h) (G : h.Ns mainGlobals mg) (a : PySem.W.nsIn K mainGlobals x = some (some (.ref T))) (t : K.lookup T = some ⟨.type "tuple", none, .seq its n, ts⟩)
    (z : its.size ≤ sizeLine) (r : Vals (ss.map V.str) its.toList) : ∃ u, mg x = some (.ref u) ∧ RelV (.ref u) (.ref u) ∧ KTup K u ss :=
  ⟨T, PySem.W.mg_of X G a, rfl, _, its, n, t, rfl, rfl, rfl, z, r⟩
theorem cint_mk {i : Int} {t : Tok} (X : K.In h) (G : h.Ns mainGlobals mg) (a : PySem.W.nsIn K mainGlobals x = some (some (.int i t))) : ∃ t : Tok, mg x = some (.int i t) ∧ RelV (.int i) (.int i t) ∧ True :=
  ⟨t, PySem.W.mg_of X G a, ⟨t, rfl⟩, trivial⟩
theorem cstr_mk {i : Str} {t : Tok} (X : K.In h) (G : h.Ns mainGlobals mg) (a : PySem.W.nsIn K mainGlobals x = some (some (.str i t))) : ∃ t : Tok, mg x = some (.str i t) ∧ RelV (.str i) (.str i t) ∧ True :=
  ⟨t, PySem.W.mg_of X G a, ⟨t, rfl⟩, trivial⟩
end
theorem pub0 {H : Hp} : pub (Mx (fun _ => false) []) H = H := funext fun b => pub_of (by
  unfold Mx
  simp)
def S_law : PSpec (List Int) := ⟨fun x => [.scr x], fun _ => True, fun _ d => d = .bl true⟩
/-- what the text of the law is to keep: shown in L7, as the last of all (ok_law) -/
def OkLaw : Prop := ∀ {P : Program} {w : World} {K : PySem.W.Frag} {mg : Str → Option Value} {base : Heap}, Top K mg → ∀ {f : Addr} {fd : FuncData}, Fun K "law" "law" s_law f fd → FnOk P w K mg base CX0 15 f fd ["_law_script"] (spG K S_law.S)
theorem law_says {K : PySem.W.Frag} {H : Hp} {a : Addr} {ns : List Int} {E : XK} (h : SqL K H a (ns.map V.int)) : spG K S_law.S [.ref a] H (fun v _ => v = .bl true) E := by
  refine ⟨ns, fun _ => false, [], ⟨fun b z => (by cases z), List.nodup_nil, fun a z => (by cases z), rfl, fun i a c z => (by simp at z)⟩, .cons ?_ .nil, trivial, fun v s H' ad' mu' q _ _ _ _ r => ?_⟩
  · rw [pub0]
    exact Rep.scr h
  · obtain ⟨_, d, e1, e2⟩ := q
    subst e1
    have e2 : d = .bl true := e2
    subst e2
    exact Rep.bl_inv r
theorem walk (okl : OkLaw) {l : PySem.W.OpenLaw} {q : Program} {loose : List Str} {XP : (Str → Option Value) → Heap → Prop} {YP : World → Heap → Prop} {d : DefRec} {K : Params → PySem.W.Frag} (hn : l.most = some 63) (hdf : d.params.defaults = []) (hnm : d.name = "law")
    (hY : ∀ (w : World) (h : Heap), YP w h → (K w.params).In h) (F : ∀ (w : World) (mg : Str → Option Value) (h : Heap), (K w.params).In h → h.Ns mainGlobals mg → Top (K w.params) mg) :
    PySem.W.WalkO q loose XP YP l.row.toRowW d [] (fun f vs => PySem.call f vs) :=
  L2.walk_of (n := 63) (k := 15) (x := "_law_script") (CX := fun _ => CX0) (sp := fun w => spG (K w.params) S_law.S) hn (by decide) hdf ⟨rfl, by decide, by decide⟩ hY (fun w mg fa h KX G hmg => by
    have T := F w mg h KX G
    obtain ⟨f, fd, FL, hm⟩ := T.d_law
    rw [hnm, hm] at hmg
    cases hmg
    refine ⟨fd, fun s v => ?_, fun base _ _ => okl T FL⟩
    obtain ⟨oc, od, kV, doc, pm, an, cdv, ct, osl, e, _, _⟩ := FL.ex
    subst e
    exact .of_eq rfl) (fun _ _ a ns _ _ hS => law_says hS) fun _ _ _ _ _ z => z
end LP
end

section
open PySem PySem.W PyProof.Rows
set_option maxRecDepth 100000 in
set_option maxHeartbeats 0 in
theorem LP.pre (okl : LP.OkLaw) : PySem.Challenge.rw_leafpress_k33_whole_insides.Holds :=
  headK (by
  k_fill
  refine LP.walk okl (l := PySem.Challenge.rw_leafpress_k33_whole_insides) rfl rfl rfl (fun w h Y => PySem.W.kIn_of Y) ?F
  case F =>
    intro w mg h KX G
    refine' LP.Top.mk ?d_ask_node ?d_holds ?d_aside_of ?d_width_of_row ?d_blemish_of ?d_rows_ending ?d_least_sum ?d_all_sums ?d_fewest_rows ?d_chosen_rows ?d_is_free ?d_first_place ?d_grid_places ?d_grid_highs ?d_face_at ?d_word_width ?d_widest_figure ?d_look_at ?d_word_of ?d_piece_wide ?d_node_units ?d_rows_high ?d_text_width ?d_narrow_of ?d_text_size ?d_tops_in_grid ?d_tops_below ?d_tops_within ?d_size_nodes ?d_all_sizes ?d_box_wide ?d_insides ?d_floor_of ?d_roof_of ?d_units_bounds ?d_column_bounds ?d_shelf_bounds ?d_grid_bounds ?d_inner_bounds ?d_node_bounds ?d_all_bounds ?d_next_place ?d_shares ?d_room_of ?d_aside_span ?d_shelf_needs ?d_side_by_side ?d_shelf_spans ?d_column_wides ?d_grid_spans ?d_column_spans ?d_held_spans ?d_all_spans ?d__law_stream ?d__law_take ?d__law_word ?d__law_pieces ?d__law_add ?d__law_text ?d__law_item ?d__law_book ?d__law_wide ?d__law_looks ?d__law_faces ?d__law_shown ?d__law_held ?d__law_beside ?d__law_made ?d__law_room ?d__law_within ?d__law_juts ?d__law_meet ?d__law_apart ?d__law_rows_beside ?d_law ?d_broken ?d_all_units ?c_WITH_UNITS ?c_PROPERTIES ?c_TOO_LONG ?c_UNKNOWN ?b_len ?b_max ?b_min ?b_sum ?b_int ?b_str ?b_list ?b_dict ?b_sorted ?b_set ?b_range ?b_zip ?b_enumerate ?b_reversed
    case d_ask_node => (refine' LP.defAt_mk KX G ?aask_node ?lask_node ?cask_node ?kask_node; (case aask_node => k_is); (case lask_node => k_is); (case cask_node => k_is); (case kask_node => k_is))
    case d_holds => (refine' LP.defAt_mk KX G ?aholds ?lholds ?cholds ?kholds; (case aholds => k_is); (case lholds => k_is); (case cholds => k_is); (case kholds => k_is))
    case d_aside_of => (refine' LP.defAt_mk KX G ?aaside_of ?laside_of ?caside_of ?kaside_of; (case aaside_of => k_is); (case laside_of => k_is); (case caside_of => k_is); (case kaside_of => k_is))
    case d_width_of_row => (refine' LP.defAt_mk KX G ?awidth_of_row ?lwidth_of_row ?cwidth_of_row ?kwidth_of_row; (case awidth_of_row => k_is); (case lwidth_of_row => k_is); (case cwidth_of_row => k_is); (case kwidth_of_row => k_is))
    case d_blemish_of => (refine' LP.defAt_mk KX G ?ablemish_of ?lblemish_of ?cblemish_of ?kblemish_of; (case ablemish_of => k_is); (case lblemish_of => k_is); (case cblemish_of => k_is); (case kblemish_of => k_is))
    case d_rows_ending => (refine' LP.defAt_mk KX G ?arows_ending ?lrows_ending ?crows_ending ?krows_ending; (case arows_ending => k_is); (case lrows_ending => k_is); (case crows_ending => k_is); (case krows_ending => k_is))
    case d_least_sum => (refine' LP.defAt_mk KX G ?aleast_sum ?lleast_sum ?cleast_sum ?kleast_sum; (case aleast_sum => k_is); (case lleast_sum => k_is); (case cleast_sum => k_is); (case kleast_sum => k_is))
    case d_all_sums => (refine' LP.defAt_mk KX G ?aall_sums ?lall_sums ?call_sums ?kall_sums; (case aall_sums => k_is); (case lall_sums => k_is); (case call_sums => k_is); (case kall_sums => k_is))
    case d_fewest_rows => (refine' LP.defAt_mk KX G ?afewest_rows ?lfewest_rows ?cfewest_rows ?kfewest_rows; (case afewest_rows => k_is); (case lfewest_rows => k_is); (case cfewest_rows => k_is); (case kfewest_rows => k_is))
    case d_chosen_rows => (refine' LP.defAt_mk KX G ?achosen_rows ?lchosen_rows ?cchosen_rows ?kchosen_rows; (case achosen_rows => k_is); (case lchosen_rows => k_is); (case cchosen_rows => k_is); (case kchosen_rows => k_is))
    case d_is_free => (refine' LP.defAt_mk KX G ?ais_free ?lis_free ?cis_free ?kis_free; (case ais_free => k_is); (case lis_free => k_is); (case cis_free => k_is); (case kis_free => k_is))
    case d_first_place => (refine' LP.defAt_mk KX G ?afirst_place ?lfirst_place ?cfirst_place ?kfirst_place; (case afirst_place => k_is); (case lfirst_place => k_is); (case cfirst_place => k_is); (case kfirst_place => k_is))
    case d_grid_places => (refine' LP.defAt_mk KX G ?agrid_places ?lgrid_places ?cgrid_places ?kgrid_places; (case agrid_places => k_is); (case lgrid_places => k_is); (case cgrid_places => k_is); (case kgrid_places => k_is))
    case d_grid_highs => (refine' LP.defAt_mk KX G ?agrid_highs ?lgrid_highs ?cgrid_highs ?kgrid_highs; (case agrid_highs => k_is); (case lgrid_highs => k_is); (case cgrid_highs => k_is); (case kgrid_highs => k_is))
    case d_face_at => (refine' LP.defAt_mk KX G ?aface_at ?lface_at ?cface_at ?kface_at; (case aface_at => k_is); (case lface_at => k_is); (case cface_at => k_is); (case kface_at => k_is))
    case d_word_width => (refine' LP.defAt_mk KX G ?aword_width ?lword_width ?cword_width ?kword_width; (case aword_width => k_is); (case lword_width => k_is); (case cword_width => k_is); (case kword_width => k_is))
    case d_widest_figure => (refine' LP.defAt_mk KX G ?awidest_figure ?lwidest_figure ?cwidest_figure ?kwidest_figure; (case awidest_figure => k_is); (case lwidest_figure => k_is); (case cwidest_figure => k_is); (case kwidest_figure => k_is))
    case d_look_at => (refine' LP.defAt_mk KX G ?alook_at ?llook_at ?clook_at ?klook_at; (case alook_at => k_is); (case llook_at => k_is); (case clook_at => k_is); (case klook_at => k_is))
    case d_word_of => (refine' LP.defAt_mk KX G ?aword_of ?lword_of ?cword_of ?kword_of; (case aword_of => k_is); (case lword_of => k_is); (case cword_of => k_is); (case kword_of => k_is))
    case d_piece_wide => (refine' LP.defAt_mk KX G ?apiece_wide ?lpiece_wide ?cpiece_wide ?kpiece_wide; (case apiece_wide => k_is); (case lpiece_wide => k_is); (case cpiece_wide => k_is); (case kpiece_wide => k_is))
    case d_node_units => (refine' LP.defAt_mk KX G ?anode_units ?lnode_units ?cnode_units ?knode_units; (case anode_units => k_is); (case lnode_units => k_is); (case cnode_units => k_is); (case knode_units => k_is))
    case d_rows_high => (refine' LP.defAt_mk KX G ?arows_high ?lrows_high ?crows_high ?krows_high; (case arows_high => k_is); (case lrows_high => k_is); (case crows_high => k_is); (case krows_high => k_is))
    case d_text_width => (refine' LP.defAt_mk KX G ?atext_width ?ltext_width ?ctext_width ?ktext_width; (case atext_width => k_is); (case ltext_width => k_is); (case ctext_width => k_is); (case ktext_width => k_is))
    case d_narrow_of => (refine' LP.defAt_mk KX G ?anarrow_of ?lnarrow_of ?cnarrow_of ?knarrow_of; (case anarrow_of => k_is); (case lnarrow_of => k_is); (case cnarrow_of => k_is); (case knarrow_of => k_is))
    case d_text_size => (refine' LP.defAt_mk KX G ?atext_size ?ltext_size ?ctext_size ?ktext_size; (case atext_size => k_is); (case ltext_size => k_is); (case ctext_size => k_is); (case ktext_size => k_is))
    case d_tops_in_grid => (refine' LP.defAt_mk KX G ?atops_in_grid ?ltops_in_grid ?ctops_in_grid ?ktops_in_grid; (case atops_in_grid => k_is); (case ltops_in_grid => k_is); (case ctops_in_grid => k_is); (case ktops_in_grid => k_is))
    case d_tops_below => (refine' LP.defAt_mk KX G ?atops_below ?ltops_below ?ctops_below ?ktops_below; (case atops_below => k_is); (case ltops_below => k_is); (case ctops_below => k_is); (case ktops_below => k_is))
    case d_tops_within => (refine' LP.defAt_mk KX G ?atops_within ?ltops_within ?ctops_within ?ktops_within; (case atops_within => k_is); (case ltops_within => k_is); (case ctops_within => k_is); (case ktops_within => k_is))
    case d_size_nodes => (refine' LP.defAt_mk KX G ?asize_nodes ?lsize_nodes ?csize_nodes ?ksize_nodes; (case asize_nodes => k_is); (case lsize_nodes => k_is); (case csize_nodes => k_is); (case ksize_nodes => k_is))
    case d_all_sizes => (refine' LP.defAt_mk KX G ?aall_sizes ?lall_sizes ?call_sizes ?kall_sizes; (case aall_sizes => k_is); (case lall_sizes => k_is); (case call_sizes => k_is); (case kall_sizes => k_is))
    case d_box_wide => (refine' LP.defAt_mk KX G ?abox_wide ?lbox_wide ?cbox_wide ?kbox_wide; (case abox_wide => k_is); (case lbox_wide => k_is); (case cbox_wide => k_is); (case kbox_wide => k_is))
    case d_insides => (refine' LP.defAt_mk KX G ?ainsides ?linsides ?cinsides ?kinsides; (case ainsides => k_is); (case linsides => k_is); (case cinsides => k_is); (case kinsides => k_is))
    case d_floor_of => (refine' LP.defAt_mk KX G ?afloor_of ?lfloor_of ?cfloor_of ?kfloor_of; (case afloor_of => k_is); (case lfloor_of => k_is); (case cfloor_of => k_is); (case kfloor_of => k_is))
    case d_roof_of => (refine' LP.defAt_mk KX G ?aroof_of ?lroof_of ?croof_of ?kroof_of; (case aroof_of => k_is); (case lroof_of => k_is); (case croof_of => k_is); (case kroof_of => k_is))
    case d_units_bounds => (refine' LP.defAt_mk KX G ?aunits_bounds ?lunits_bounds ?cunits_bounds ?kunits_bounds; (case aunits_bounds => k_is); (case lunits_bounds => k_is); (case cunits_bounds => k_is); (case kunits_bounds => k_is))
    case d_column_bounds => (refine' LP.defAt_mk KX G ?acolumn_bounds ?lcolumn_bounds ?ccolumn_bounds ?kcolumn_bounds; (case acolumn_bounds => k_is); (case lcolumn_bounds => k_is); (case ccolumn_bounds => k_is); (case kcolumn_bounds => k_is))
    case d_shelf_bounds => (refine' LP.defAt_mk KX G ?ashelf_bounds ?lshelf_bounds ?cshelf_bounds ?kshelf_bounds; (case ashelf_bounds => k_is); (case lshelf_bounds => k_is); (case cshelf_bounds => k_is); (case kshelf_bounds => k_is))
    case d_grid_bounds => (refine' LP.defAt_mk KX G ?agrid_bounds ?lgrid_bounds ?cgrid_bounds ?kgrid_bounds; (case agrid_bounds => k_is); (case lgrid_bounds => k_is); (case cgrid_bounds => k_is); (case kgrid_bounds => k_is))
    case d_inner_bounds => (refine' LP.defAt_mk KX G ?ainner_bounds ?linner_bounds ?cinner_bounds ?kinner_bounds; (case ainner_bounds => k_is); (case linner_bounds => k_is); (case cinner_bounds => k_is); (case kinner_bounds => k_is))
    case d_node_bounds => (refine' LP.defAt_mk KX G ?anode_bounds ?lnode_bounds ?cnode_bounds ?knode_bounds; (case anode_bounds => k_is); (case lnode_bounds => k_is); (case cnode_bounds => k_is); (case knode_bounds => k_is))
    case d_all_bounds => (refine' LP.defAt_mk KX G ?aall_bounds ?lall_bounds ?call_bounds ?kall_bounds; (case aall_bounds => k_is); (case lall_bounds => k_is); (case call_bounds => k_is); (case kall_bounds => k_is))
    case d_next_place => (refine' LP.defAt_mk KX G ?anext_place ?lnext_place ?cnext_place ?knext_place; (case anext_place => k_is); (case lnext_place => k_is); (case cnext_place => k_is); (case knext_place => k_is))
    case d_shares => (refine' LP.defAt_mk KX G ?ashares ?lshares ?cshares ?kshares; (case ashares => k_is); (case lshares => k_is); (case cshares => k_is); (case kshares => k_is))
    case d_room_of => (refine' LP.defAt_mk KX G ?aroom_of ?lroom_of ?croom_of ?kroom_of; (case aroom_of => k_is); (case lroom_of => k_is); (case croom_of => k_is); (case kroom_of => k_is))
    case d_aside_span => (refine' LP.defAt_mk KX G ?aaside_span ?laside_span ?caside_span ?kaside_span; (case aaside_span => k_is); (case laside_span => k_is); (case caside_span => k_is); (case kaside_span => k_is))
    case d_shelf_needs => (refine' LP.defAt_mk KX G ?ashelf_needs ?lshelf_needs ?cshelf_needs ?kshelf_needs; (case ashelf_needs => k_is); (case lshelf_needs => k_is); (case cshelf_needs => k_is); (case kshelf_needs => k_is))
    case d_side_by_side => (refine' LP.defAt_mk KX G ?aside_by_side ?lside_by_side ?cside_by_side ?kside_by_side; (case aside_by_side => k_is); (case lside_by_side => k_is); (case cside_by_side => k_is); (case kside_by_side => k_is))
    case d_shelf_spans => (refine' LP.defAt_mk KX G ?ashelf_spans ?lshelf_spans ?cshelf_spans ?kshelf_spans; (case ashelf_spans => k_is); (case lshelf_spans => k_is); (case cshelf_spans => k_is); (case kshelf_spans => k_is))
    case d_column_wides => (refine' LP.defAt_mk KX G ?acolumn_wides ?lcolumn_wides ?ccolumn_wides ?kcolumn_wides; (case acolumn_wides => k_is); (case lcolumn_wides => k_is); (case ccolumn_wides => k_is); (case kcolumn_wides => k_is))
    case d_grid_spans => (refine' LP.defAt_mk KX G ?agrid_spans ?lgrid_spans ?cgrid_spans ?kgrid_spans; (case agrid_spans => k_is); (case lgrid_spans => k_is); (case cgrid_spans => k_is); (case kgrid_spans => k_is))
    case d_column_spans => (refine' LP.defAt_mk KX G ?acolumn_spans ?lcolumn_spans ?ccolumn_spans ?kcolumn_spans; (case acolumn_spans => k_is); (case lcolumn_spans => k_is); (case ccolumn_spans => k_is); (case kcolumn_spans => k_is))
    case d_held_spans => (refine' LP.defAt_mk KX G ?aheld_spans ?lheld_spans ?cheld_spans ?kheld_spans; (case aheld_spans => k_is); (case lheld_spans => k_is); (case cheld_spans => k_is); (case kheld_spans => k_is))
    case d_all_spans => (refine' LP.defAt_mk KX G ?aall_spans ?lall_spans ?call_spans ?kall_spans; (case aall_spans => k_is); (case lall_spans => k_is); (case call_spans => k_is); (case kall_spans => k_is))
    case d__law_stream => (refine' LP.defAt_mk KX G ?a_law_stream ?l_law_stream ?c_law_stream ?k_law_stream; (case a_law_stream => k_is); (case l_law_stream => k_is); (case c_law_stream => k_is); (case k_law_stream => k_is))
    case d__law_take => (refine' LP.defAt_mk KX G ?a_law_take ?l_law_take ?c_law_take ?k_law_take; (case a_law_take => k_is); (case l_law_take => k_is); (case c_law_take => k_is); (case k_law_take => k_is))
    case d__law_word => (refine' LP.defAt_mk KX G ?a_law_word ?l_law_word ?c_law_word ?k_law_word; (case a_law_word => k_is); (case l_law_word => k_is); (case c_law_word => k_is); (case k_law_word => k_is))
    case d__law_pieces => (refine' LP.defAt_mk KX G ?a_law_pieces ?l_law_pieces ?c_law_pieces ?k_law_pieces; (case a_law_pieces => k_is); (case l_law_pieces => k_is); (case c_law_pieces => k_is); (case k_law_pieces => k_is))
    case d__law_add => (refine' LP.defAt_mk KX G ?a_law_add ?l_law_add ?c_law_add ?k_law_add; (case a_law_add => k_is); (case l_law_add => k_is); (case c_law_add => k_is); (case k_law_add => k_is))
    case d__law_text => (refine' LP.defAt_mk KX G ?a_law_text ?l_law_text ?c_law_text ?k_law_text; (case a_law_text => k_is); (case l_law_text => k_is); (case c_law_text => k_is); (case k_law_text => k_is))
    case d__law_item => (refine' LP.defAt_mk KX G ?a_law_item ?l_law_item ?c_law_item ?k_law_item; (case a_law_item => k_is); (case l_law_item => k_is); (case c_law_item => k_is); (case k_law_item => k_is))
    case d__law_book => (refine' LP.defAt_mk KX G ?a_law_book ?l_law_book ?c_law_book ?k_law_book; (case a_law_book => k_is); (case l_law_book => k_is); (case c_law_book => k_is); (case k_law_book => k_is))
    case d__law_wide => (refine' LP.defAt_mk KX G ?a_law_wide ?l_law_wide ?c_law_wide ?k_law_wide; (case a_law_wide => k_is); (case l_law_wide => k_is); (case c_law_wide => k_is); (case k_law_wide => k_is))
    case d__law_looks => (refine' LP.defAt_mk KX G ?a_law_looks ?l_law_looks ?c_law_looks ?k_law_looks; (case a_law_looks => k_is); (case l_law_looks => k_is); (case c_law_looks => k_is); (case k_law_looks => k_is))
    case d__law_faces => (refine' LP.defAt_mk KX G ?a_law_faces ?l_law_faces ?c_law_faces ?k_law_faces; (case a_law_faces => k_is); (case l_law_faces => k_is); (case c_law_faces => k_is); (case k_law_faces => k_is))
    case d__law_shown => (refine' LP.defAt_mk KX G ?a_law_shown ?l_law_shown ?c_law_shown ?k_law_shown; (case a_law_shown => k_is); (case l_law_shown => k_is); (case c_law_shown => k_is); (case k_law_shown => k_is))
    case d__law_held => (refine' LP.defAt_mk KX G ?a_law_held ?l_law_held ?c_law_held ?k_law_held; (case a_law_held => k_is); (case l_law_held => k_is); (case c_law_held => k_is); (case k_law_held => k_is))
    case d__law_beside => (refine' LP.defAt_mk KX G ?a_law_beside ?l_law_beside ?c_law_beside ?k_law_beside; (case a_law_beside => k_is); (case l_law_beside => k_is); (case c_law_beside => k_is); (case k_law_beside => k_is))
    case d__law_made => (refine' LP.defAt_mk KX G ?a_law_made ?l_law_made ?c_law_made ?k_law_made; (case a_law_made => k_is); (case l_law_made => k_is); (case c_law_made => k_is); (case k_law_made => k_is))
    case d__law_room => (refine' LP.defAt_mk KX G ?a_law_room ?l_law_room ?c_law_room ?k_law_room; (case a_law_room => k_is); (case l_law_room => k_is); (case c_law_room => k_is); (case k_law_room => k_is))
    case d__law_within => (refine' LP.defAt_mk KX G ?a_law_within ?l_law_within ?c_law_within ?k_law_within; (case a_law_within => k_is); (case l_law_within => k_is); (case c_law_within => k_is); (case k_law_within => k_is))
    case d__law_juts => (refine' LP.defAt_mk KX G ?a_law_juts ?l_law_juts ?c_law_juts ?k_law_juts; (case a_law_juts => k_is); (case l_law_juts => k_is); (case c_law_juts => k_is); (case k_law_juts => k_is))
    case d__law_meet => (refine' LP.defAt_mk KX G ?a_law_meet ?l_law_meet ?c_law_meet ?k_law_meet; (case a_law_meet => k_is); (case l_law_meet => k_is); (case c_law_meet => k_is); (case k_law_meet => k_is))
    case d__law_apart => (refine' LP.defAt_mk KX G ?a_law_apart ?l_law_apart ?c_law_apart ?k_law_apart; (case a_law_apart => k_is); (case l_law_apart => k_is); (case c_law_apart => k_is); (case k_law_apart => k_is))
    case d__law_rows_beside => (refine' LP.defAt_mk KX G ?a_law_rows_beside ?l_law_rows_beside ?c_law_rows_beside ?k_law_rows_beside; (case a_law_rows_beside => k_is); (case l_law_rows_beside => k_is); (case c_law_rows_beside => k_is); (case k_law_rows_beside => k_is))
    case d_law => (refine' LP.defAt_mk KX G ?alaw ?llaw ?claw ?klaw; (case alaw => k_is); (case llaw => k_is); (case claw => k_is); (case klaw => k_is))
    case d_broken => (refine' LP.defD_mk KX G ?abroken ?lbroken ?cbroken ?kbroken ?tbroken ?rbroken (List.cons_ne_nil _ _); (case abroken => k_is); (case lbroken => k_is); (case cbroken => k_is); (case kbroken => k_is); (case tbroken => k_is); (case rbroken => exact .cons rfl .nil))
    case d_all_units => (refine' LP.defD_mk KX G ?aall_units ?lall_units ?call_units ?kall_units ?tall_units ?rall_units (List.cons_ne_nil _ _); (case aall_units => k_is); (case lall_units => k_is); (case call_units => k_is); (case kall_units => k_is); (case tall_units => k_is); (case rall_units => exact .cons rfl .nil))
    case c_WITH_UNITS => (refine' LP.ktup_mk KX G ?aWITH_UNITS ?tWITH_UNITS ?zWITH_UNITS ?rWITH_UNITS; (case aWITH_UNITS => k_is); (case tWITH_UNITS => k_is); (case zWITH_UNITS => decide); (case rWITH_UNITS => (repeat (first | exact .nil | refine .cons ⟨_, rfl⟩ ?_))))
    case c_PROPERTIES => (refine' LP.ktup_mk KX G ?aPROPERTIES ?tPROPERTIES ?zPROPERTIES ?rPROPERTIES; (case aPROPERTIES => k_is); (case tPROPERTIES => k_is); (case zPROPERTIES => decide); (case rPROPERTIES => (repeat (first | exact .nil | refine .cons ⟨_, rfl⟩ ?_))))
    case c_TOO_LONG => (refine' LP.cint_mk KX G ?aTOO_LONG; (case aTOO_LONG => k_is))
    case c_UNKNOWN => (refine' LP.cstr_mk KX G ?aUNKNOWN; (case aUNKNOWN => k_is))
    case b_len => (refine' PySem.W.mg_none_of KX G ?zlen; (case zlen => k_is))
    case b_max => (refine' PySem.W.mg_none_of KX G ?zmax; (case zmax => k_is))
    case b_min => (refine' PySem.W.mg_none_of KX G ?zmin; (case zmin => k_is))
    case b_sum => (refine' PySem.W.mg_none_of KX G ?zsum; (case zsum => k_is))
    case b_int => (refine' PySem.W.mg_none_of KX G ?zint; (case zint => k_is))
    case b_str => (refine' PySem.W.mg_none_of KX G ?zstr; (case zstr => k_is))
    case b_list => (refine' PySem.W.mg_none_of KX G ?zlist; (case zlist => k_is))
    case b_dict => (refine' PySem.W.mg_none_of KX G ?zdict; (case zdict => k_is))
    case b_sorted => (refine' PySem.W.mg_none_of KX G ?zsorted; (case zsorted => k_is))
    case b_set => (refine' PySem.W.mg_none_of KX G ?zset; (case zset => k_is))
    case b_range => (refine' PySem.W.mg_none_of KX G ?zrange; (case zrange => k_is))
    case b_zip => (refine' PySem.W.mg_none_of KX G ?zzip; (case zzip => k_is))
    case b_enumerate => (refine' PySem.W.mg_none_of KX G ?zenumerate; (case zenumerate => k_is))
    case b_reversed => (refine' PySem.W.mg_none_of KX G ?zreversed; (case zreversed => k_is)))
end

section
set_option maxHeartbeats 2000000
/-! LpR: list(reversed(xs)). -/
namespace LP
open PySem PySem.Spec PyProof.Rows L2 RT
section
variable {P : Program} {w : World} {A : Around} {E : Value → Shared → Prop} {s : Shared}
/-- the iterator it over the list l, from its last place, is taken into the empty list at S -/
theorem take_rev {R : Result → Shared → Prop} {it l S : Addr} {xs : Array Value} {res : Value} {n : Nat} (hh : A.handled = none) (I0 : s.heap.IsRevIter it l ((xs.size : Int) - 1)) (L0 : s.heap.IsList l xs) (d1 : l ≠ it) (d2 : S ≠ it) (d3 : S ≠ l)
    (few : xs.size ≤ sizeLine) (oS : s.heap.get? S = some { cls := .type "list", data := .seq #[] n })
    (k : ∀ h1 tk ys m, (∀ b o, b ≠ S → b ≠ it → s.heap.get? b = some o → h1.get? b = some o) → h1.get? S = some { cls := .type "list", dict := none, data := .seq ys m, slots := #[] } →
      ItemsOf (fun i v => xs[xs.size - 1 - i]? = some v) ys xs.size → R (.ok (.ret res)) { s with heap := h1, toks := tk }) :
    wpAny (model P w) A.in1 (Builtin.List.listExtendWith (.ref S) (.ref it) res) (fun z s1 => match z with | .done q => R (.ok q) s1 | .again q => q.quiet = true ∧ codeAny (model P w) A q R s1) (fun e s1 => R (.error e) s1) s := by
  have isI : s.TypeIs (.ref it) "list_reverseiterator" := I0.typeIs
  have two : Builtin.List.listSameRef (.ref S) (.ref it) = false := by simp [Builtin.List.listSameRef, d2]
  have off : S ∉ [it, l] := fun z => (List.mem_cons.mp z).elim d2 fun z => d3 (List.mem_singleton.mp z)
  have first : (((xs.size : Nat) : Int) - 1 - ((0 : Nat) : Int)) = (xs.size : Int) - 1 := Int.sub_zero _
  unfold Builtin.List.listExtendWith Builtin.List.listLengthHint
  refine wpAny_bind (wpAny_typeOf isI (by
    rw [if_neg (show ¬ _ from by rw [two]; decide)]
    refine wpAny_bind (wpAny_pyIter_revIter I0 (wpAny_bind (wpAny_holding (wpAny_bind (wpAny_specialOf isI nolen_lri ?_)))))
    refine wpAny_bind (m := specialOf (Value.ref it) (Str.ofString "__length_hint__")) (wpAny_specialOf isI hint_lri ?_)
    generalize nm : ("list_reverseiterator.__length_hint__" : String) = y
    wp_delta
    rw [(by subst nm; decide +kernel : splitId y = some ("list_reverseiterator", "__length_hint__"))]
    subst nm
    refine wpAny_bind (wpAny_isInstance (b := true) isI (by rw [isSubtype_type]; kernel_rfl) (wpAny_pure (by
      rw [if_neg (by decide)]
      exact wpAny_pure ⟨plainId_quiet F.plain_extend_loop _, codeAny_extend_loopS (Walks.listRev (prog := P) (w := w) (A := A.in1) hh it l d1 xs).toS few _ off _ xs.size 0 _ _ _ rfl (Nat.zero_le _) ⟨Nat.zero_le _, first.symm ▸ I0, L0⟩ oS (.nil _)
        fun s1 ys m mv o1 its => by
          rw [Moved.eq_with mv]
          exact k s1.heap s1.toks ys m (fun b o b1 b2 e => mv.heap b o (fun z => (List.mem_cons.mp z).elim b1 fun z => b2 (List.mem_singleton.mp z)) e) o1 its⟩)))))
theorem call_list_rev {Q : Value → Shared → Prop} {it l : Addr} {xs : Array Value} (hh : A.handled = none) (I0 : s.heap.IsRevIter it l ((xs.size : Int) - 1)) (L0 : s.heap.IsList l xs) (d1 : l ≠ it) (few : xs.size ≤ sizeLine)
    (k : ∀ h1 tk ys m, (∀ b o, b ≠ it → s.heap.get? b = some o → h1.get? b = some o) → h1.get? s.heap.objs.size = some { cls := .type "list", dict := none, data := .seq ys m, slots := #[] } →
      ItemsOf (fun i v => xs[xs.size - 1 - i]? = some v) ys xs.size → Q (.ref s.heap.objs.size) { s with heap := h1, toks := tk }) : wpAny (model P w) A (call (.type "list") [.ref it]) Q E s := by
  have ⟨oi, ei, _⟩ := I0
  have ⟨ol, el, rl⟩ := L0
  have d2 : s.heap.objs.size ≠ it := fun z => Nat.lt_irrefl _ (z ▸ Heap.lt_size ei)
  have d3 : s.heap.objs.size ≠ l := fun z => Nat.lt_irrefl _ (z ▸ Heap.lt_size el)
  refine callType_codes (Q₁ := fun v s1 => v = .ref s.heap.objs.size ∧ s1 = { s with heap := s.heap.push { cls := .type "list", data := .seq #[] } }) F.called_list (F.typeCall_list_1 _) F.entry_list_init (code_list_new _ ⟨rfl, rfl⟩) fun v s1 ⟨e1, e2⟩ => ?_
  subst e1 e2
  have new : (s.heap.push { cls := .type "list", data := .seq #[] }).get? s.heap.objs.size = some { cls := .type "list", data := .seq #[] } := Heap.get?_push_size _ rfl
  refine ⟨⟨_, new, rfl⟩, F.args_list_init_2 _ _, (show wpAny _ _ (do let y ← Builtin.List.listItems (.ref s.heap.objs.size); Builtin.List.listUpdate (.ref s.heap.objs.size) (fun _ => #[]); letGo y.toList.reverse; Builtin.List.listExtendWith (.ref s.heap.objs.size) (.ref it) .none) _ _ _ from ?_)⟩
  unfold Builtin.List.listItems
  refine wpAny_bind (wpAny_bind (wpAny_seqItems new rfl (wpAny_pure
    (show wpAny _ _ (updateSeq s.heap.objs.size (fun _ => #[]) >>= fun _ => letGo (#[] : Array Value).toList.reverse >>= fun _ => Builtin.List.listExtendWith (.ref s.heap.objs.size) (.ref it) .none) _ _ _ from ?_))))
  refine wpAny_bind (wpAny_updateSeq new rfl (wpAny_bind (wpAny_letGo ?_)))
  have old : ∀ b o, b ≠ s.heap.objs.size → s.heap.get? b = some o → ((s.heap.push { cls := .type "list", data := .seq #[] }).update s.heap.objs.size (Obj.mapSeq (fun _ => (#[] : Array Value)))).get? b = some o := fun b o hb e => by
    rw [Heap.get?_update_other _ _ (Ne.symm hb)]
    exact Heap.get?_push_of_some _ e
  refine take_rev (A := A.in1) (R := wants (fun r s2 => r = .none ∧ Q (.ref s.heap.objs.size) s2) E) hh (I0.at fun o e => old _ o (Ne.symm d2) e) ⟨ol, old _ _ (Ne.symm d3) el, rl⟩ d1 d2 d3 few (Heap.get?_update_self (Obj.mapSeq fun _ => (#[] : Array Value)) new rfl) fun h1 tk ys m kp o1 its => ?_
  exact ⟨rfl, k h1 tk ys m (fun b o hb e => kp b o (fun z => Nat.lt_irrefl _ (z ▸ Heap.lt_size e)) hb (old b o (fun z => Nat.lt_irrefl _ (z ▸ Heap.lt_size e)) e)) o1 its⟩
end
/-- list(reversed(x)), x a list: a new list -/
def tListRev (K : PySem.W.Frag) (te : TE) : TE := fun σ H Q => te σ H fun v H1 => ∃ (a : Addr) (xs : List V), v = .ref a ∧ SqL K H1 a xs ∧ ∀ q, H1 q = none → Q (.ref q) (upd H1 q (.lst xs.reverse))
section
variable {X : Cx} {K : PySem.W.Frag}
theorem pe_listRev {e : Expr} {te : TE} {p p2 pos pos2 : Pos} (hK : X.K = K) (hc : X.calm = true) (hg : Gl X "list") (hm : X.mg "list" = none) (hg2 : Gl X "reversed") (hm2 : X.mg "reversed" = none) (he : PE X e te)
    (hs : starEach [e] X.env = (false, eval e X.env) :: starEach [] X.env := by rfl)
    (hs2 : starEach [.Call (.Name "reversed" p2) [e] [] pos2] X.env = (false, eval (.Call (.Name "reversed" p2) [e] [] pos2) X.env) :: starEach [] X.env := by rfl) :
    PE X (.Call (.Name "list" p) [.Call (.Name "reversed" p2) [e] [] pos2] [] pos) (tListRev K te) := by
  subst hK
  refine ⟨fun pins s σ H Q I h => ?_⟩
  refine Call_ (ld_blt I hg hm boot_list (PyProof.Rows.callWith_type1 (args_cons (Call_ (ld_blt I hg2 hm2 PyProof.Rows.boot_reversed (PyProof.Rows.callWith_type1 (args_cons (thn (he.run pins s σ H _ I h) fun u s1 ⟨v, H1, I1, r1, q1⟩ => args_nil ?_) hs) hs rfl))) hs2) hs2 rfl))
  obtain ⟨a, xs, ev, hq, q⟩ := q1
  subst ev
  obtain rfl : u = Value.ref a := r1
  obtain ⟨its, rv, p', hz⟩ := I1.list hq
  refine call_reversed_list p'.isList (args_nil ?_)
  have k0 : ∀ b o, s1.heap.get? b = some o → (s1.heap.push (revObj a ((its.toArray.size : Int) - 1))).get? b = some o := fun b o e => Heap.get?_push_of_some _ e
  have I2 : Inv X pins σ H1 { s1 with heap := s1.heap.push (revObj a ((its.toArray.size : Int) - 1)) } := I1.kept (t' := s1.toks) k0
  obtain ⟨f0, f1, f2, f3, f4, f5⟩ := I1.fpOk (H' := H1) (b := s1.heap.objs.size) (Nat.le_refl _) (I1.hok.fresh (Nat.le_refl _))
  have hl := p'.isList
  obtain ⟨ol, hol, _⟩ := id hl
  have hne : a ≠ s1.heap.objs.size := Nat.ne_of_lt (Heap.lt_size hol)
  have hn : its.toArray.size ≤ sizeLine := by rw [List.size_toArray, ← rv.length]; exact hz
  refine call_list_rev (s := { s1 with heap := s1.heap.push (revObj a ((its.toArray.size : Int) - 1)) }) (I1.ok.hd hc) ⟨_, Heap.get?_push_size _ rfl, rfl, rfl⟩ (hl.push _) hne hn fun h' tk acc c' hk hS hi => ?_
  have hS1 : (s1.heap.push (revObj a ((its.toArray.size : Int) - 1))).objs.size ≤ (s1.heap.push (revObj a ((its.toArray.size : Int) - 1))).objs.size := Nat.le_refl _
  have fp : ∀ b ∈ [s1.heap.objs.size], FpOk X pins H1 b := fun b hb => by rw [List.mem_singleton.mp hb]; exact I1.fpOk (Nat.le_refl _) (I1.hok.fresh (Nat.le_refl _))
  refine ⟨.ref _, upd H1 _ (.lst xs.reverse), I2.turnedNew (t' := tk) (ch := [s1.heap.objs.size]) (fun b o hb e => hk b o (by simpa using hb) e) fp hS1 (show ObjOk X.prog X.w _ _ _ (.lst xs.reverse) from ⟨by rw [List.length_reverse]; exact hz, acc.toList, c', vals_rev rv hi, ?_⟩), rfl, q _ (I2.hok.fresh hS1)⟩
  rw [Array.toArray_toList]
  exact hS
end
section
variable {K : PySem.W.Frag} {ρ : Rho} {mu : List Ct} {Φ : SV → List Ct → Prop} {te : TE}
theorem we_listRev (h : WE K te ρ mu fun s mu1 => ∃ ds, IsL mu1 s ds ∧ Φ (.dat (.lst ds.reverse)) mu1) : WE K (tListRev K te) ρ mu Φ := fun g H ad σ Q S k =>
  h g H ad σ _ S fun v s H1 ad1 mu1 S1 hv ⟨ds, hx, q⟩ => by
    obtain ⟨a, vs, rfl, e2, r⟩ := hx.got S1 hv
    refine ⟨a, vs, rfl, SqL.of e2, fun l hl => ?_⟩
    obtain ⟨S2, e4, s2⟩ := S1.alloc (o := .lst vs.reverse) hl
    exact k _ _ _ _ _ S2 (sv_d (Rep.lst (by rw [e4]; exact upd_same) (r.reverse.mono s2))) q
end
end LP
end

section
set_option maxHeartbeats 2000000
/-! LpM: the data of the program, typed. -/
namespace LP
open PySem L2

inductive Kd where
  | body | case | shelf | grid | text | head | picture | aside | note
  deriving DecidableEq
def Kd.s : Kd → Str
  | .body => "body" | .case => "case" | .shelf => "shelf" | .grid => "grid" | .text => "text"
  | .head => "head" | .picture => "picture" | .aside => "aside" | .note => "note"
theorem Kd.inj : ∀ {a b : Kd}, a.s = b.s → a = b := by
  intro a b h
  cases a <;> cases b <;> first | rfl | (exact absurd h (by decide +kernel))
theorem kd_dec (a b : Kd) : decide (a.s = b.s) = decide (a = b) := decide_eq_decide.mpr ⟨Kd.inj, fun h => by rw [h]⟩
structure Nd where
  el : Int
  kd : Kd
  nm : Str
  ms : D
  st : D
@[reducible] def Nd.enc (n : Nd) : D := .tup [.int n.el, .str n.kd.s, .str n.nm, n.ms, n.st]
@[reducible] def encB (ns : List Nd) : D := .lst (ns.map Nd.enc)
@[reducible] def encI (ns : List Int) : D := .lst (ns.map D.int)
@[reducible] def encN (ns : List Nat) : D := .lst (ns.map fun (j : Nat) => D.int (j : Int))
@[reducible] def pr (p : Int × Int) : D := .tup [.int p.1, .int p.2]
@[reducible] def encP (ps : List (Int × Int)) : D := .lst (ps.map pr)
@[reducible] def encLk (ls : List (List Int)) : D := .lst (ls.map encI)
structure Un where
  w : Int
  b : Int
  h : Int
  k : D
  nt : D
@[reducible] def Un.enc (u : Un) : D := .tup [.int u.w, .int u.b, .int u.h, u.k, u.nt]
@[reducible] def encU (us : List Un) : D := .lst (us.map Un.enc)
@[reducible] def encUU (us : List (List Un)) : D := .lst (us.map encU)
def encO : Option Int → D
  | none => .non
  | some i => .int i
theorem at_m {α β : Type} {f : α → β} {xs : List α} {i : Nat} {x : α} (h : xs[i]? = some x) : atI (xs.map f) (i : Int) = some (f x) := atI_nat (by rw [List.getElem?_map, h]; rfl)
theorem at_k {α : Type} {xs : List α} {i : Nat} {x : α} (h : xs[i]? = some x) : atI xs (i : Int) = some x := atI_nat h
theorem at_i {α β : Type} {f : α → β} {xs : List α} {z : Int} {i : Nat} {x : α} (hz : z = (i : Int)) (h : xs[i]? = some x) : atI (xs.map f) z = some (f x) := by rw [hz]; exact at_m h
theorem getI {α : Type} {xs : List α} {i : Nat} (h : i < xs.length) : xs[i]? = some xs[i] := List.getElem?_eq_getElem h

/-! ### slices -/
theorem cut_from {ds : List D} {i : Nat} : cutD ds (some (i : Int)) none = ds.drop i := by
  unfold cutD
  rw [HT.sIx_nat, HT.sIx_none]
  rcases Nat.lt_or_ge ds.length i with h | h
  · rw [Nat.min_eq_right (by omega), List.drop_eq_nil_of_le (Nat.le_refl _), List.drop_eq_nil_of_le (by omega)]; simp
  · rw [Nat.min_eq_left h, List.take_of_length_le (by rw [List.length_drop]; exact Nat.le_refl _)]
theorem cut_to {ds : List D} {i : Nat} : cutD ds none (some (i : Int)) = ds.take i := by
  unfold cutD
  rw [HT.sIx_nat, HT.sIx_none, Nat.sub_zero, List.drop_zero]
  rcases Nat.lt_or_ge ds.length i with h | h
  · rw [Nat.min_eq_right (by omega), List.take_length, List.take_of_length_le (by omega)]
  · rw [Nat.min_eq_left h]
theorem cut_mid {ds : List D} {i j : Nat} : cutD ds (some (i : Int)) (some (j : Int)) = (ds.drop i).take (j - i) := by
  unfold cutD
  rw [HT.sIx_nat, HT.sIx_nat]
  rcases Nat.lt_or_ge ds.length i with h | h
  · rw [List.drop_eq_nil_of_le (show ds.length ≤ i by omega), List.drop_eq_nil_of_le (show ds.length ≤ min i ds.length by omega)]; simp
  · rw [show min i ds.length = i by omega]
    rcases Nat.lt_or_ge ds.length j with h2 | h2
    · rw [show min j ds.length = ds.length by omega, List.take_of_length_le (by rw [List.length_drop]; exact Nat.le_refl _), List.take_of_length_le (by rw [List.length_drop]; omega)]
    · rw [show min j ds.length = j by omega]
theorem cut_init {ds : List D} : cutD ds none (some (-1)) = ds.take (ds.length - 1) := by
  unfold cutD
  rw [HT.sIx_none, Nat.sub_zero, List.drop_zero]
  congr 1
  show (if (-1 : Int) < 0 then ((-1 : Int) + (ds.length : Int)).toNat else min (-1 : Int).toNat ds.length) = _
  rw [if_pos (by omega)]; omega

theorem at_last {α β : Type} {f : α → β} {xs : List α} {x : α} (h : xs.getLast? = some x) : atI (xs.map f) (-1) = some (f x) := by
  have h2 : xs ≠ [] := fun e => by rw [e] at h; cases h
  have hl := List.length_pos_iff.mpr h2
  have e : ixN (xs.map f).length (-1) = some (xs.length - 1) := by
    unfold ixN
    rw [List.length_map]
    split <;> first | omega | skip
    all_goals (split <;> first | omega | (congr 1; omega))
  unfold atI
  rw [e]
  show (xs.map f)[xs.length - 1]? = _
  rw [List.getElem?_map, ← List.getLast?_eq_getElem?, h]; rfl
/-- the properties, in order -/
def PROPS : List Str := ["face", "align", "above", "inset", "weight", "least", "most", "columns", "span", "deep", "side", "wide", "fresh"]
/-- the nodes that hang in a node itself -/
def hold (ns : List Nd) (i : Nat) : List Nat := (List.range ns.length).filter fun j => decide (i < j) && decide ((ns.map Nd.el)[j]? = some (i : Int))
theorem mem_hold {ns : List Nd} {i j : Nat} : j ∈ hold ns i ↔ j < ns.length ∧ i < j ∧ (ns.map Nd.el)[j]? = some (i : Int) := by
  unfold hold
  rw [List.mem_filter, List.mem_range]
  simp
theorem hold_sorted (ns : List Nd) (i : Nat) : (hold ns i).Pairwise (· < ·) := List.pairwise_lt_range.filter _
theorem hold_nodup (ns : List Nd) (i : Nat) : (hold ns i).Nodup := (hold_sorted ns i).imp fun h => Nat.ne_of_lt h
theorem range_cut {n m : Nat} (h : m ≤ n) : List.range n = List.range m ++ (List.range (n - m)).map fun k => m + k := by
  have e : n = m + (n - m) := by omega
  conv => lhs; rw [e, List.range_add]
theorem hold_flt {ns : List Nd} {i : Nat} (hi : i < ns.length) : fltD (ns.length - (i + 1)) (fun k => decide ((ns.map Nd.el)[i + 1 + k]? = some (i : Int))) (fun k => .int ((i : Int) + 1 + (k : Nat))) = (hold ns i).map fun (j : Nat) => D.int (j : Int) := by
  unfold fltD hold
  rw [range_cut (show i + 1 ≤ ns.length by omega), List.filter_append, List.map_append, List.filter_map, List.map_map]
  have e : (List.range (i + 1)).filter (fun j => decide (i < j) && decide ((ns.map Nd.el)[j]? = some (i : Int))) = [] := by
    rw [List.filter_eq_nil_iff]
    intro j hj
    have := List.mem_range.mp hj
    have h2 : ¬ i < j := by omega
    simp [h2]
  rw [e, List.map_nil, List.nil_append]
  have e2 : (List.range (ns.length - (i + 1))).filter ((fun j => decide (i < j) && decide ((ns.map Nd.el)[j]? = some (i : Int))) ∘ fun k => i + 1 + k) = (List.range (ns.length - (i + 1))).filter (fun k => decide ((ns.map Nd.el)[i + 1 + k]? = some (i : Int))) := by
    apply List.filter_congr
    intro k _
    have h2 : i < i + 1 + k := by omega
    simp [h2]
  rw [e2]
  apply List.map_congr_left
  intro k _
  show D.int ((i : Int) + 1 + (k : Nat)) = D.int ((i + 1 + k : Nat) : Int)
  congr 1

/-! ### numbers -/
@[reducible] def imax (i j : Int) : Int := if j > i then j else i
@[reducible] def imin (i j : Int) : Int := if j < i then j else i
/-- the property of a node -/
def lk (lks : List (List Int)) (i j : Nat) : Int := (((lks[i]?).getD [])[j]?).getD 0
/-- the looks: thirteen numbers for each node -/
def LkOk (lks : List (List Int)) (m : Nat) : Prop := m ≤ lks.length ∧ ∀ l ∈ lks, l.length = 13
theorem LkOk.mono {lks : List (List Int)} {m k : Nat} (h : LkOk lks m) (hk : k ≤ m) : LkOk lks k := ⟨by have := h.1; omega, h.2⟩
theorem LkOk.get {lks : List (List Int)} {m i j : Nat} (h : LkOk lks m) (hi : i < m) (hj : j < 13) : ∃ l, lks[i]? = some l ∧ l[j]? = some (lk lks i j) := by
  have h1 := getI (xs := lks) (i := i) (by have := h.1; omega)
  have h2 := h.2 _ (List.mem_of_getElem? h1)
  refine ⟨_, h1, ?_⟩
  have h3 := getI (xs := lks[i]'(by have := h.1; omega)) (i := j) (by omega)
  unfold lk
  rw [h1, Option.getD_some, h3]; rfl
/-- the ranges of what is used -/
structure LkR (lks : List (List Int)) (m : Nat) : Prop where
  ok : LkOk lks m
  above : ∀ i, i < m → 0 ≤ lk lks i 2 ∧ lk lks i 2 ≤ 9
  inset : ∀ i, i < m → 0 ≤ lk lks i 3 ∧ lk lks i 3 ≤ 9
  weight : ∀ i, i < m → 1 ≤ lk lks i 4 ∧ lk lks i 4 ≤ 9
  least : ∀ i, i < m → 0 ≤ lk lks i 5 ∧ lk lks i 5 ≤ 60
  most : ∀ i, i < m → 20 ≤ lk lks i 6 ∧ lk lks i 6 ≤ 200
  columns : ∀ i, i < m → 1 ≤ lk lks i 7 ∧ lk lks i 7 ≤ 6
  span : ∀ i, i < m → 1 ≤ lk lks i 8 ∧ lk lks i 8 ≤ 6
  deep : ∀ i, i < m → 1 ≤ lk lks i 9 ∧ lk lks i 9 ≤ 4
  wide : ∀ i, i < m → 10 ≤ lk lks i 11 ∧ lk lks i 11 ≤ 90
theorem LkR.mono {lks : List (List Int)} {m k : Nat} (h : LkR lks m) (hk : k ≤ m) : LkR lks k :=
  ⟨h.ok.mono hk, fun i hi => h.above i (Nat.lt_of_lt_of_le hi hk), fun i hi => h.inset i (Nat.lt_of_lt_of_le hi hk), fun i hi => h.weight i (Nat.lt_of_lt_of_le hi hk), fun i hi => h.least i (Nat.lt_of_lt_of_le hi hk), fun i hi => h.most i (Nat.lt_of_lt_of_le hi hk), fun i hi => h.columns i (Nat.lt_of_lt_of_le hi hk), fun i hi => h.span i (Nat.lt_of_lt_of_le hi hk), fun i hi => h.deep i (Nat.lt_of_lt_of_le hi hk), fun i hi => h.wide i (Nat.lt_of_lt_of_le hi hk)⟩
/-! ### kinds -/
def Kd.wu : Kd → Bool
  | .text => true | .head => true | .note => true | _ => false
def Kd.cont : Kd → Bool
  | .body => true | .case => true | .shelf => true | .grid => true | .aside => true | _ => false
theorem kd_wu (k : Kd) : decide (k.s ∈ (["text", "head", "note"] : List Str)) = k.wu := by cases k <;> decide +kernel
theorem kd_not {k : Kd} (h1 : k.wu = false) (h2 : k ≠ .picture) : k.cont = true := by
  cases k <;> first | rfl | exact absurd rfl h2 | cases h1

end LP
end

section
set_option maxHeartbeats 4000000
/-! LpS0: a set of texts whose table can be walked; set(xs) and sorted(set) of it. -/
namespace LP
open PySem PySem.Spec PyProof.Rows L2
/-- one entry of the table: a text under its hash -/
def TxE (P : Program) (w : World) (e : Int × Value) : Prop := ∃ (x : Str) (tk : Tok), e.2 = Value.str x tk ∧ e.1 = (PySem.strKind P w).hash x
/-- at a stands a set of n texts at most -/
def TxS (P : Program) (w : World) (h : Heap) (a : Addr) (n : Nat) : Prop :=
  ∃ (o : Obj) (es : Array (Int × Value)) (ep : Nat) (t : SetTable), h.get? a = some o ∧ (o.ExactSet ∧ o.data = .set es ep t) ∧ (∀ e ∈ es.toList, TxE P w e) ∧ (es.size ≤ n ∧ t.fits es.size = true) ∧ Ris t.place.toList ∧
    (w.params.followText "set-order" = true ∨ t.led = true)
section
variable {P : Program} {w : World} {h h' : Heap} {a : Addr} {n : Nat}
theorem TxS.to (R : TxS P w h a n) (k : ∀ o, h.get? a = some o → h'.get? a = some o) : TxS P w h' a n :=
  let ⟨o, es, ep, t, ho, r⟩ := R
  ⟨o, es, ep, t, k o ho, r⟩
theorem TxE.els {l : List (Int × Value)} (g : ∀ e ∈ l, TxE P w e) : ElemsOf (PySem.strKind P w) l := fun e he =>
  let ⟨x, tk, h1, h2⟩ := g e he
  ⟨⟨x, by rw [h1]; exact strKind_is P w x tk, h2⟩, by rw [h1]; rfl⟩
end
section
variable {P : Program} {w : World} {A : Around} {E : Value → Shared → Prop} {s : Shared} {a : Addr} {n : Nat}
/-- the end of an add: the entries are stored, and the table may be laid out anew -/
theorem tx_tail {told : Bool → Sem Unit} (ht : ∀ (b : Bool) (s1 : Shared) (Q1 : Unit → Shared → Prop), Q1 () s1 → wpAny (model P w) A (told b) Q1 E s1) {o : Obj} {es es1 : Array (Int × Value)} {ep : Nat} {t t2 : SetTable}
    (ho : s.heap.get? a = some o) (hx : o.ExactSet) (hd : o.data = .set es ep t) (g1 : ∀ e ∈ es1.toList, TxE P w e) (hn : es1.size ≤ n) (hb : n < scanBound) (hf : t2.fits es1.size = true) (hr : Ris t2.place.toList)
    (hl : w.params.followText "set-order" = true ∨ t2.led = true) {wasDummy : Bool} {R : Option Bool → Shared → Prop} (hR : ∀ h1, Heap.SameBut a s.heap h1 → TxS P w h1 a n → R (some true) { s with heap := h1 }) :
    wpAny (model P w) A (storeSet a es1 t2 >>= fun _ => if (!wasDummy && t2.tooFull) = true then (told (relayAll t2 es1 (SetTable.grown es1.size)).2.2 >>= fun _ =>
      storeSet a (relayAll t2 es1 (SetTable.grown es1.size)).1 (relayAll t2 es1 (SetTable.grown es1.size)).2.1 >>= fun _ => pure (some true)) else pure (some true)) R E s := by
  have lt1 : es1.size < scanBound := Nat.lt_of_le_of_lt hn hb
  refine wpAny_bind (wpAny_storeSet_of ho hd ?_ (fits_of_scanBound lt1))
  have h1 := store_at (es' := es1) (t' := t2) ho hd
  have s1 := Heap.SameBut.update s.heap a (Obj.putSet es1 t2)
  by_cases c : (!wasDummy && t2.tooFull) = true
  · rw [if_pos c]
    have w1 := relayAll_perm t2 es1 (SetTable.grown es1.size)
    have w2 := relayAll_fits t2 es1 (SetTable.grown es1.size)
    have w3 := relayAll_ris t2 es1 (SetTable.grown es1.size)
    have w4 := relayAll_led t2 es1 (SetTable.grown es1.size)
    generalize relayAll t2 es1 (SetTable.grown es1.size) = Y at w1 w2 w3 w4 ⊢
    have z : Y.1.size = es1.size := by rw [← Array.length_toList, w1.length_eq, Array.length_toList]
    refine wpAny_bind (ht _ _ _ (wpAny_bind (wpAny_storeSet_of h1 rfl ?_ (fits_of_scanBound (by rw [z]; exact lt1)))))
    have h2 := store_at (es' := Y.1) (t' := Y.2.1) h1 rfl
    refine wpAny_pure (hR _ (s1.trans (Heap.SameBut.update _ a _)) ⟨_, Y.1, _, Y.2.1, h2, ⟨hx, rfl⟩, fun e he => g1 e (w1.mem_iff.mp he), ⟨by rw [z]; exact hn, w2⟩, w3, ?_⟩)
    rcases hl with q | q
    · exact .inl q
    · exact .inr (by rw [w4]; exact q)
  · rw [if_neg c]
    exact wpAny_pure (hR _ s1 ⟨_, es1, _, t2, h1, ⟨hx, rfl⟩, g1, ⟨hn, hf⟩, hr, hl⟩)
theorem tx_add {x : Str} {tk : Tok} {Q : Bool → Shared → Prop} (R : TxS P w s.heap a n) (room : n + 1 < scanBound)
    (hQ : ∀ b h1, Heap.SameBut a s.heap h1 → TxS P w h1 a (n + 1) → Q b { s with heap := h1 }) : wpAny (model P w) A (setAddHashed a (.str x tk) ((PySem.strKind P w).hash x)) Q E s := by
  obtain ⟨o, es, ep, t, ho, ⟨hx, hd⟩, g, ⟨hn, hf⟩, hr, hl⟩ := R
  have isx : (PySem.strKind P w).is x (.str x tk) = true := strKind_is P w x tk
  have scx : (Value.str x tk).scannable = true := rfl
  have el := TxE.els g
  have hb : es.size < scanBound := by omega
  unfold setAddHashed setAddHashedIn
  refine wpAny_holding (wpAny_bind (wpAny_setState_of ho hd hf ?_))
  dsimp only
  rw [byScan_of scx hb el]
  simp only [↓reduceIte]
  unfold setAddByScan
  refine wpAny_bind (wpAny_bind (wpAny_rule (wpAny_bind (wpAny_setScan_of isx ho hd hf el ?_))))
  cases hfi : List.findIdx? (fun e => (PySem.strKind P w).is x e.2) es.toList with
  | some j =>
    dsimp only
    exact wpAny_pure (wpAny_pure (hQ _ s.heap (Heap.SameBut.refl a s.heap) ⟨o, es, ep, t, ho, ⟨hx, hd⟩, g, ⟨Nat.le_succ_of_le hn, hf⟩, hr, hl⟩))
  | none =>
    dsimp only
    have gw : ∀ (b : Bool) {s1 : Shared} {Q1 : Unit → Shared → Prop}, Q1 () s1 → wpAny (model P w) A (match b with | true => rule "set.scan.the-table-gave-way" | false => pure ()) Q1 E s1 := fun b s1 Q1 q => by
      cases b
      · exact wpAny_pure q
      · exact wpAny_rule q
    have w1 := layNew_perm t es ((PySem.strKind P w).hash x) (.str x tk)
    have w2 := layNew_fits t es ((PySem.strKind P w).hash x) (.str x tk)
    have w3 := layNew_ris t es ((PySem.strKind P w).hash x) (.str x tk) hr
    have w4 := layNew_led t es ((PySem.strKind P w).hash x) (.str x tk)
    generalize layNew t es ((PySem.strKind P w).hash x) (.str x tk) = Y at w1 w2 w3 w4 ⊢
    obtain ⟨es1, t1, wasDummy, gave⟩ := Y
    dsimp only at w1 w2 w3 w4 ⊢
    rw [Array.toList_push] at w1
    have g1 : ∀ e ∈ es1.toList, TxE P w e := fun e he => by
      rcases List.mem_append.mp (w1.mem_iff.mp he) with z | z
      · exact g e z
      · rw [List.mem_singleton.mp z]
        exact ⟨x, tk, rfl, rfl⟩
    have z1 : es1.size ≤ n + 1 := by
      rw [← Array.length_toList, w1.length_eq, List.length_append, Array.length_toList, List.length_singleton]
      omega
    have l1 : w.params.followText "set-order" = true ∨ t1.led = true := by
      rcases hl with q | q
      · exact .inl q
      · exact .inr (by rw [w4]; exact q)
    refine wpAny_bind (gw _ ?_)
    split
    · refine wpAny_bind ?_
      rw [hashByValue_scannable 8 scx]
      refine wpAny_pure (tx_tail (n := n + 1) (fun b s1 Q1 q => gw b q) ho hx hd g1 z1 room ?_ ?_ ?_ fun h1 sb r => ?_)
      · first | exact w2 | (split <;> first | exact w2 | exact SetTable.fits_plain_off w2)
      · first | exact w3 | (split <;> exact w3)
      · first | exact l1 | (split <;> exact l1)
      · dsimp only
        exact wpAny_pure (hQ _ h1 sb r)
    · refine wpAny_bind (wpAny_pure ?_)
      simp only [↓reduceIte]
      refine tx_tail (n := n + 1) (fun b s1 Q1 q => gw b q) ho hx hd g1 z1 room w2 w3 l1 fun h1 sb r => ?_
      dsimp only
      exact wpAny_pure (hQ _ h1 sb r)
end
section
variable {P : Program} {w : World} {A : Around} {R : Result → Shared → Prop} {I S : Addr} {fp wr : List Addr} {G : Array GenState → Array GenState → Prop} {n : Nat} {Pv : Nat → Value → Prop} {St : Nat → Shared → Prop}
/-- the loop of set(xs): each text is added -/
theorem tx_loop (W : WalksS P w A.in1 I fp wr G n Pv St) (off : S ∉ fp) (few : n < 1000) (txt : ∀ i v, Pv i v → ∃ x tk, v = Value.str x tk) :
    ∀ (left i : Nat) (s : Shared), n - i = left → i ≤ n → St i s → TxS P w s.heap S i → (∀ s1, Moved (S :: wr) G s s1 → TxS P w s1.heap S n → R (.ok (.ret .none)) s1) →
      codeAny (model P w) A (.builtin "set.update.loop" ⟨[.ref S, .ref I], []⟩) R s := by
  have off' : S ∉ wr := fun z => off (W.sub _ z)
  have wide : ∀ b ∈ wr, b ∈ S :: wr := fun b z => .tail _ z
  intro left
  induction left with
  | zero =>
    intro i s e le st T k
    have e' : i = n := Nat.le_antisymm le (Nat.sub_eq_zero_iff_le.mp e)
    subst e'
    refine codeAny_builtin PyProof.Rows.F.entry_set_update_loop (by
      rw [Around.under_plainId PyProof.Rows.F.plain_set_update_loop _]
      show wpAny _ A.in1 (pyNext (.ref I) >>= _) _ _ s
      exact wpAny_bind (W.done s _ _ st fun s1 m => (show wpAny _ A.in1 (ret Value.none) _ _ s1 from wpAny_pure (k s1 (m.mono wide) (T.to fun o q => m.heap S o off' q)))))
  | succ left ih =>
    intro i s e le st T k
    have lt : i < n := by omega
    refine codeAny_builtin PyProof.Rows.F.entry_set_update_loop ?_
    rw [Around.under_plainId PyProof.Rows.F.plain_set_update_loop _]
    show wpAny _ A.in1 (pyNext (.ref I) >>= _) _ _ s
    refine wpAny_bind (W.item i s _ _ lt st fun v s1 pv st1 m => ?_)
    obtain ⟨x, tk, rfl⟩ := txt i v pv
    have T1 : TxS P w s1.heap S i := T.to fun o q => m.heap S o off' q
    show wpAny _ A.in1 (holding [Value.str x tk] (setAdd S (.str x tk)) >>= _) _ _ s1
    refine wpAny_bind (wpAny_holding ?_)
    unfold setAdd
    refine wpAny_holding (wpAny_bind ((PySem.strKind P w).pyHash (k := x) (strKind_is _ _ _ _) ?_))
    refine tx_add (s := { s1 with toks := s1.toks + 1 }) T1 (by unfold scanBound; omega) fun _ h1 sb T2 => ?_
    have oth : ∀ b, b ≠ S → h1.get? b = s1.heap.get? b := fun b q => sb.2 b q
    refine wpAny_pure ⟨plainId_quiet PyProof.Rows.F.plain_set_update_loop _, ih (i + 1) _ (by omega) lt (W.frame _ s1 _ _ st1 (Nat.le_succ _) fun b hb o q => ?_) T2 fun s2 m2 T3 => ?_⟩
    · exact (oth b fun z => off (z ▸ hb)).trans q
    · exact k s2 (Moved.trans W.gtrans ((m.mono wide).then_heap (Nat.le_succ _) fun b o hb q => (oth b fun z => hb (z ▸ List.mem_cons_self)).trans q) m2) T3
end
section
variable {P : Program} {w : World} {A : Around} {E : Value → Shared → Prop} {s : Shared}
/-- set() laid freshly -/
abbrev txO (w : World) : Obj := { cls := .type "set", dict := none, data := .set #[] 0 (.fresh 0 0 (!w.params.followText "set-order")) }
theorem tx_fresh {h : Heap} {a : Addr} (ho : h.get? a = some (txO w)) : TxS P w h a 0 :=
  ⟨_, #[], 0, _, ho, ⟨⟨rfl, rfl, rfl⟩, rfl⟩, fun e he => by simp at he, ⟨Nat.le_refl _, rfl⟩, List.Pairwise.nil, by
    show w.params.followText "set-order" = true ∨ (!w.params.followText "set-order") = true
    cases w.params.followText "set-order"
    · exact .inr rfl
    · exact .inl rfl⟩
/-- set(xs), xs a list of texts -/
theorem tx_set {l : Addr} {items : Array Value} {xs : List Str} {Q : Value → Shared → Prop} (hh : A.handled = none) (hl : s.heap.IsList l items) (hi : StrsAre items.toList xs) (few : items.size < 1000)
    (k : ∀ (h1 : Heap) (tk : Nat), TxS P w h1 s.heap.objs.size items.size → (∀ b o, s.heap.get? b = some o → h1.get? b = some o) → Q (.ref s.heap.objs.size) { s with heap := h1, toks := tk }) :
    wpAny (model P w) A (call (.type "set") [.ref l]) Q E s := by
  have ⟨c, tl, hmro⟩ := PySem.F.called_set.mro
  have m1 := PySem.F.called_set.made
  have m2 := PySem.F.called_set.sub
  refine wpAny_call (codeAny_of_tree (by
    show wpAny _ _ (callAny (.type "set") _) _ _ _
    refine wpAny_pure ⟨Code.quiet_builtin _ (by decide +kernel), codeAny_builtin PySem.F.entry_type_call ?_⟩
    rw [Around.under_plain (weight_type_call_type "set" [.ref l] []) rfl]
    have m3 := PySem.F.called_set.notType
    have m4 := PySem.F.called_set.canCreate
    have m5 := PySem.F.typeCall_set_1 (.ref l)
    repeat (any_goals (first | assumption | wp_step))
    refine codeAny_mono (code_set_led1 (.ref l) (E := E) (Q₁ := fun v s1 => v = .ref s.heap.objs.size ∧ s1 = { s with heap := s.heap.push (txO w) }) ⟨rfl, rfl⟩) fun r s1 hr => ?_
    rcases r with e | fl
    · exact hr
    cases fl with
    | ret v =>
      obtain ⟨e1, e2⟩ := hr
      subst e1
      subst e2
      have hS : (s.heap.push (txO w)).get? s.heap.objs.size = some (txO w) := Heap.get?_push_size _ rfl
      have hT : Shared.TypeIs { s with heap := s.heap.push (txO w) } (.ref s.heap.objs.size) "set" := ⟨_, hS, rfl⟩
      have m6 := PySem.F.called_set.init.lookup
      have m7 := PySem.F.called_set.init.bind (.ref s.heap.objs.size)
      repeat (any_goals (first | assumption | wp_step))
      refine codeAny_mono (codeAny_call_builtin (R := wants (fun r s2 => r = .none ∧ ∃ h1 tk, s2 = { s with heap := h1, toks := tk } ∧ TxS P w h1 s.heap.objs.size items.size ∧ (∀ b o, s.heap.get? b = some o → h1.get? b = some o)) E)
        PySem.F.called_set.init.plain PySem.F.entry_set_init (check_set_init_1 hT ?_)) fun r2 s2 hr2 => ?_
      · have hL : (s.heap.push (txO w)).IsList l items := hl.push _
        obtain ⟨ol, hol, hcl, nl, hdl⟩ := id hL
        obtain ⟨ocls, odict, odata, oslots⟩ := ol
        simp only at hcl hdl
        subst hcl; subst hdl
        have n1 := PySem.F.sub_list_set
        have n2 := PySem.F.sub_list_frozenset
        have n3 : (Value.type "list" == Value.type "dict") = false := by decide
        unfold Builtin.«set.__init__» noKeywords Builtin.Frozenset.updateFrom
        generalize hPI : pyIter = PI
        wp_walk
        subst hPI
        refine wpAny_pyIter_list hL (wpAny_bind (wpAny_runValue ?_))
        have lS : l < s.heap.objs.size := by
          obtain ⟨o0, ho0, _⟩ := hl
          exact Heap.lt_size ho0
        have none3 : A.in1.in1.in1.handled = none := by simp [hh]
        have szS : (s.heap.push (txO w)).objs.size = s.heap.objs.size + 1 := Heap.size_push ..
        have lI : l ≠ (s.heap.push (txO w)).objs.size := fun z => Nat.ne_of_lt (Nat.lt_succ_of_lt lS) (z.trans szS)
        have off : s.heap.objs.size ∉ [(s.heap.push (txO w)).objs.size, l] := by
          intro z
          rcases List.mem_cons.mp z with z | z
          · exact Nat.ne_of_lt (Nat.lt_succ_self _) (z.trans szS)
          · exact Nat.ne_of_gt lS (List.mem_singleton.mp z)
        refine tx_loop ((Walks.list none3 _ l lI items).toS) off few (fun i v q => ?_) (items.size - 0) 0 _ rfl (Nat.zero_le _) ⟨⟨_, Heap.get?_push_size _ rfl, rfl, rfl⟩, hL.push _⟩ (tx_fresh (Heap.get?_push_of_some _ hS)) fun s3 m T => ?_
        · obtain ⟨t, e⟩ := SS.strs_at hi i v (by rw [Array.getElem?_toList]; exact q)
          exact ⟨_, t, e⟩
        · obtain ⟨h3, g3, d3, t3, o3⟩ := s3
          have q1 : g3 = s.gens := m.gens
          have q2 : d3 = s.drawn := m.drawn
          have q3 : o3 = s.os := m.os
          subst q1; subst q2; subst q3
          show wpAny _ _ _ _ _ _
          refine wpAny_pure (show wpAny _ _ (ret Value.none) _ _ _ from wpAny_pure ⟨rfl, h3, t3, rfl, T, fun b o q => ?_⟩)
          have bl := Heap.lt_size q
          refine m.heap b o (fun z => ?_) (Heap.get?_push_of_some _ (Heap.get?_push_of_some _ q))
          rcases List.mem_cons.mp z with z | z
          · exact Nat.ne_of_lt bl z
          · exact Nat.ne_of_lt (Nat.lt_succ_of_lt bl) ((List.mem_singleton.mp z).trans szS)
      · rcases r2 with e | fl2
        · exact hr2
        cases fl2 with
        | ret r =>
          obtain ⟨e1, h1, tk, e2, T, kp⟩ := hr2
          subst e1
          subst e2
          repeat (any_goals (first | assumption | wp_step))
          exact k _ _ T kp
        | _ => exact hr2.elim
    | _ => exact hr.elim))
/-- sorted(set) -/
theorem tx_sorted {a : Addr} {n : Nat} {Q : Value → Shared → Prop} (R : TxS P w s.heap a n) (hh : A.handled = none) (few : n < 64)
    (k : ∀ s1 p (out : Array Value) (c : Nat) (ys : List Str), (∀ b o, s.heap.get? b = some o → s1.heap.get? b = some o) → s1.gens = s.gens → s1.os = s.os → s.heap.objs.size ≤ p →
      s1.heap.get? p = some (seqObj "list" out c) → StrsAre out.toList ys → ys.length ≤ n → Q (.ref p) s1) : wpAny (model P w) A (call (.builtin "sorted") [.ref a]) Q E s := by
  obtain ⟨o, es, ep, t, ho, ⟨hx, hd⟩, g, ⟨hn, hf⟩, hr, hl⟩ := R
  refine Calls.call_function_entry kind_sorted plain_sorted entry_sorted (args_sorted1 _) ?_
  unfold Builtin.«sorted»
  refine wpAny_bind (m := checkCount "sorted" 1 1 _) (wpAny_pure (wpAny_bind (collect_set (A := A.in1) hh ⟨o, ho, hx.1, hd⟩ hf (by unfold scanBound; omega) hr hl fun s1 vs k1 hz g1 o1 pm => ?_)))
  have lv : vs.length = es.size := by rw [pm.length_eq, List.length_map, Array.length_toList]
  have all : ∀ us : List Value, (∀ v ∈ us, ∃ x tk, v = Value.str x tk) → ∃ ys, StrsAre us ys := fun us => by
    induction us with
    | nil => exact fun _ => ⟨[], .nil⟩
    | cons u us ih =>
      intro q
      obtain ⟨x, tk, rfl⟩ := q u List.mem_cons_self
      obtain ⟨ys, r⟩ := ih fun v hv => q v (.tail _ hv)
      exact ⟨x :: ys, .cons x tk r⟩
  obtain ⟨ys, hS⟩ := all vs fun v hv => by
    obtain ⟨e, he, q⟩ := List.mem_map.mp (pm.mem_iff.mp hv)
    obtain ⟨x, tk, q1, _⟩ := g e he
    exact ⟨x, tk, by rw [← q]; exact q1⟩
  refine wpAny_bind (wpAny_newList ?_ (by rw [lv, sizeLine_eq]; omega))
  have oL : (s1.heap.push (seqObj "list" vs.toArray 0)).get? s1.heap.objs.size = some (seqObj "list" vs.toArray 0) := Heap.get?_push_size _ rfl
  refine wpAny_bind (wpAny_holding (wpAny_call_entry slot_list_sort ⟨_, oL, rfl⟩ entry_list_sort
    (list_sort_treeK strKind_oneLt oL hS.keysOf (fun v1 v2 rest e => keyKind_strs (e ▸ hS)) (by omega) fun st1 hp hs => ⟨_, rfl, ?_⟩) (args_list_sort _)))
  obtain ⟨zs, z1, z2, _⟩ := sorted_out_str hS hp hs
  obtain ⟨c, hc⟩ := sortedHeap_at (vs := vs) (out := (arrOf st1).map (·.2)) oL
  refine wpAny_pure ⟨_, rfl, k _ s1.heap.objs.size _ c zs (fun b u e => ?_) g1 o1 hz hc z1 (by rw [z2.length_eq, ← hS.len_eq]; omega)⟩
  have e1 := k1 b u e
  have lt := Heap.lt_size e1
  exact (sortedHeap_old (Nat.ne_of_lt lt) (by rw [size_push']; exact Nat.lt_succ_of_lt lt)).trans (Heap.get?_push_of_some _ e1)
end
end LP
end

section
set_option maxHeartbeats 2000000
/-! LpS: sorted(set(xs)) of a list of two texts at most. -/
namespace LP
open PySem PySem.Spec PyProof.Rows L2
def tSortedSet (K : PySem.W.Frag) (te : TE) : TE := fun σ H Q => te σ H fun v H1 => ∃ (a : Addr) (xs : List Str), v = .ref a ∧ SqL K H1 a (xs.map V.str) ∧ xs.length ≤ 2 ∧ ∀ (ys : List Str) (q : Addr), H1 q = none → Q (.ref q) (upd H1 q (.lst (ys.map V.str)))
section
variable {X : Cx} {K : PySem.W.Frag}
theorem pe_sortedSet {e : Expr} {te : TE} {p p2 pos pos2 : Pos} (hK : X.K = K) (hc : X.calm = true) (hg : Gl X "sorted") (hm : X.mg "sorted" = none) (hg2 : Gl X "set") (hm2 : X.mg "set" = none) (he : PE X e te)
    (hs : starEach [e] X.env = (false, eval e X.env) :: starEach [] X.env := by rfl)
    (hs2 : starEach [.Call (.Name "set" p2) [e] [] pos2] X.env = (false, eval (.Call (.Name "set" p2) [e] [] pos2) X.env) :: starEach [] X.env := by rfl) :
    PE X (.Call (.Name "sorted" p) [.Call (.Name "set" p2) [e] [] pos2] [] pos) (tSortedSet K te) := by
  subst hK
  refine ⟨fun pins s σ H Q I h => ?_⟩
  refine Call_ (ld_blt I hg hm boot_sorted (PyProof.Rows.callWith_builtin1 (PyProof.Rows.args_cons ?_ hs2) hs2 rfl))
  refine Call_ (ld_blt I hg2 hm2 boot_set (PyProof.Rows.callWith_type1 (PyProof.Rows.args_cons (thn (he.run pins s σ H _ I h) fun v s1 ⟨x, H1, I1, r1, q1⟩ => PyProof.Rows.args_nil ?_) hs) hs rfl))
  obtain ⟨l, xs, rfl, hq, few, q⟩ := q1
  cases r1
  obtain ⟨its, rv, pl, _⟩ := I1.list hq
  have n2 : its.toArray.size ≤ 2 := by rw [List.size_toArray, ← rv.length, List.length_map]; exact few
  refine tx_set (I1.ok.hd hc) pl.isList (by simpa using rv.strs) (Nat.lt_of_le_of_lt n2 (by decide)) fun h1 tk T kp => ?_
  have I2 : Inv X pins σ H1 { s1 with heap := h1, toks := tk } := I1.kept kp
  refine PyProof.Rows.args_nil ?_
  refine tx_sorted (s := { s1 with heap := h1, toks := tk }) T (I2.ok.hd hc) (Nat.lt_of_le_of_lt n2 (by decide)) fun s2 p out c ys k1 g1 o1 hp hat hys hly => ?_
  have hn : H1 p = none := I2.hok.fresh hp
  have few2 : (ys.map V.str).length ≤ sizeLine := by rw [List.length_map]; exact Nat.le_trans hly (Nat.le_trans n2 (by decide))
  exact ⟨.ref p, upd H1 p (.lst (ys.map V.str)), I2.call' (ch := []) o1 (Un.laid k1 hp hn) (I2.hok.laid k1 hp ⟨few2, out.toList, c, vals_of_strs hys, hat⟩) (by rw [g1]; exact I2.bare) (fun _ z => nomatch z), rfl, q ys p hn⟩
end
section
variable {K : PySem.W.Frag} {ρ : Rho} {mu : List Ct} {Φ : SV → List Ct → Prop} {te : TE}
theorem we_sortedSet (h : WE K te ρ mu fun s mu1 => ∃ xs : List Str, s = .dat (.lst (xs.map D.str)) ∧ xs.length ≤ 2 ∧ Φ (.dat .any) mu1) : WE K (tSortedSet K te) ρ mu Φ := fun g H ad σ Q S k =>
  h g H ad σ _ S fun v s H1 ad1 mu1 S1 hv ⟨xs, e, hl, q⟩ => by
    subst e
    obtain ⟨a, vs, rfl, e2, r⟩ := Rep.lst_inv hv
    have e := r.strs_inv
    subst e
    refine ⟨a, xs, rfl, SqL.of (pub_same _ _ e2), hl, fun ys l hl => ?_⟩
    obtain ⟨S2, e4, s2⟩ := S1.alloc (o := .lst (ys.map V.str)) hl
    exact k _ _ _ _ _ S2 (sv_d (Rep.any _)) q
end
/-! ### a comprehension over a list that may change but does not meanwhile -/
structure ItOkP (K : PySem.W.Frag) (g : Bg) (J : It) (xs : List D) (Pm : List Ct → Prop) (σ : L2.St) (ρ : Rho) : Prop where
  step : ∀ (H : Hp) (ad : List Addr) (mu : List Ct) (i : Nat) (d : D), StOk K g H ad mu σ ρ → Pm mu → xs[i]? = some d → J.go i H ∧ ∀ v H', J.yld i H v H' → StOk K g H' ad mu σ ρ ∧ Same (pub (Mx g.M ad) H) (pub (Mx g.M ad) H') ∧ Rep K (pub (Mx g.M ad) H') v d
  stop : ∀ (H : Hp) (ad : List Addr) (mu : List Ct), StOk K g H ad mu σ ρ → Pm mu → J.stop xs.length H
def WIP (K : PySem.W.Frag) (wi : TI) (ρ : Rho) (mu : List Ct) (Ψ : List D → List Ct → (List Ct → Prop) → Prop) : Prop := ∀ (g : Bg) (H : Hp) (ad : List Addr) (σ : L2.St) (R : It → Hp → Prop), StOk K g H ad mu σ ρ →
  (∀ J H' ad' mu' xs Pm, StOk K g H' ad' mu' σ ρ → (∀ M HM ab, ItOkP K ⟨M, HM, pub (Mx g.M ad') H', ab⟩ J xs Pm σ ρ) → Ψ xs mu' Pm → R J H') → wi σ H R
section
variable {K : PySem.W.Frag} {ρ : Rho} {mu : List Ct} {Φ : SV → List Ct → Prop} {ti te : TE}
theorem wi_listO {s k : Nat} {xs : List D} {Ψ : List D → List Ct → (List Ct → Prop) → Prop} (hs : ρ[s]? = some (some (.ob k))) (hm : mu[k]? = some (.lst xs)) (q : Ψ xs mu fun m => m[k]? = some (.lst xs)) : WIP K (iList K (tVar s)) ρ mu Ψ := fun g H ad σ R S kk => by
  obtain ⟨v, h1, a, ha, hv⟩ := S.sl s _ hs
  subst hv
  obtain ⟨o, h3, vs, e3, r⟩ := S.mu.ct k a _ ha hm
  subst e3
  refine ⟨.ref a, h1, a, rfl, ⟨vs, SqL.of h3⟩, kk _ _ _ _ xs _ S (fun M HM ab => ⟨fun H' ad' mu' i d S' hP hi => ?_, fun H' ad' mu' S' hP => ?_⟩) q⟩
  · obtain ⟨v', h1', a', ha', hv'⟩ := S'.sl s _ hs
    rw [h1] at h1'
    cases h1'
    cases hv'
    obtain ⟨o', h3', vs', e3', r'⟩ := S'.mu.ct k a _ ha' hP
    subst e3'
    obtain ⟨x, h4, h5⟩ := r'.get hi
    refine ⟨⟨vs', x, SqL.of h3', h4⟩, fun y H2 ⟨e, hy⟩ => ?_⟩
    subst e
    have := hy vs' (SqL.of h3')
    rw [h4] at this; cases this
    exact ⟨S', Same.refl _, h5⟩
  · obtain ⟨v', h1', a', ha', hv'⟩ := S'.sl s _ hs
    rw [h1] at h1'
    cases h1'
    cases hv'
    obtain ⟨o', h3', vs', e3', r'⟩ := S'.mu.ct k a _ ha' hP
    subst e3'
    exact ⟨vs', SqL.of h3', by rw [r'.length]; exact Nat.le_refl _⟩
theorem we_lcQ {wi : TI} {tg : TG} {vs : List Nat} {tt : TT} (hg : GIn tg vs) (h : WIP K wi ρ mu fun xs mu1 Pm => ∃ I : Nat → List D → List Ct → Prop, (∀ i ys m, I i ys m → Pm m) ∧ I 0 [] mu1 ∧
    (∀ (i : Nat) (d : D) (ys : List D) mu1, xs[i]? = some d → I i ys mu1 → ys.length ≤ i → WG K tg (.dat d) (wipeR ρ vs) mu1 fun ρ2 mu2 => WT K tt ρ2 mu2 fun b mu3 =>
      if b = true then WE K te ρ2 mu3 fun s mu4 => i < 1000000 ∧ I (i + 1) (ys ++ [s.toD]) mu4 else I (i + 1) ys mu3) ∧
    (∀ ys mu1, I xs.length ys mu1 → ys.length ≤ xs.length → Φ (.dat (.lst ys)) mu1)) : WE K (tLc wi tg tt te vs) ρ mu Φ := fun g H ad σ Q S k =>
  h g H ad σ _ S fun J H1 ad1 mu1 xs Pm S1 hJ ⟨I, hPm, h0, hs, hd⟩ D hD => by
    have hf := S1.mu.free hD
    -- the new list stands apart
    let G (ws : List V) : Bg := ⟨fun b => g.M b || decide (b = D), upd g.HM D (.lst ws), pub (Mx g.M ad1) H1, g.ab⟩
    have Mg : ∀ (ad' : List Addr) b, Mx (fun b => g.M b || decide (b = D)) ad' b = true ↔ Mx g.M ad' b = true ∨ b = D := fun ad' b => by
      rw [mx_of, mx_of]; simp; constructor
      · rintro ((a | a) | a)
        · exact .inl (.inl a)
        · exact .inr a
        · exact .inl (.inr a)
      · rintro ((a | a) | a)
        · exact .inl (.inl a)
        · exact .inr a
        · exact .inl (.inr a)
    have up : ∀ (ad' : List Addr) (H' : Hp), Same (pub (Mx (fun b => g.M b || decide (b = D)) ad') H') (pub (Mx g.M ad') H') := fun ad' H' => pub_up fun b hb => (Mg ad' b).mpr (.inl hb)
    -- from a state with the list apart: the list changed
    have chg : ∀ {ws ws' : List V} {H' : Hp} {ad' : List Addr} {mu' : List Ct} {σ' : L2.St} {ρ' : Rho}, StOk K (G ws) H' ad' mu' σ' ρ' → StOk K (G ws') (upd H' D (.lst ws')) ad' mu' σ' ρ' := fun {ws ws' H' ad' mu' σ' ρ'} S' => by
      have hM : (fun b => g.M b || decide (b = D)) D = true := by simp
      have e : pub (Mx (fun b => g.M b || decide (b = D)) ad') (upd H' D (.lst ws')) = pub (Mx (fun b => g.M b || decide (b = D)) ad') H' := pub_updM (mx_of.mpr (.inl hM))
      have nD : ∀ a ∈ ad', a ≠ D := fun a ha z => by
        have := S'.mu.out a ha
        rw [z] at this
        rw [show (G ws).M D = true from hM] at this; cases this
      refine ⟨⟨fun b hb => ?_, S'.mu.nd, S'.mu.out, S'.mu.len, fun i a c h1 h2 => ?_⟩, fun b hb => ?_, S'.pre, by show Same _ (pub (Mx (fun b => g.M b || decide (b = D)) ad') (upd H' D (.lst ws'))); rw [e]; exact S'.base, S'.ln, fun i s h1 => ?_⟩
      · by_cases hb2 : b = D
        · rw [hb2, upd_same]; rfl
        · rw [upd_ne hb2]; exact S'.mu.fin b hb
      · obtain ⟨o, h3, h4⟩ := S'.mu.ct i a c h1 h2
        refine ⟨o, by rw [upd_ne (nD a (List.mem_of_getElem? h1))]; exact h3, ?_⟩
        show CtOk K (pub (Mx (fun b => g.M b || decide (b = D)) ad') (upd H' D (.lst ws'))) a o c
        rw [e]; exact h4
      · show upd H' D (.lst ws') b = upd g.HM D (.lst ws') b
        by_cases hb2 : b = D
        · rw [hb2, upd_same, upd_same]
        · rw [upd_ne hb2, upd_ne hb2]
          have := S'.prot b hb
          rw [this]
          show upd g.HM D (.lst ws) b = g.HM b
          rw [upd_ne hb2]
      · obtain ⟨v, h3, h4⟩ := S'.sl i s h1
        refine ⟨v, h3, ?_⟩
        show SvOk K (pub (Mx (fun b => g.M b || decide (b = D)) ad') (upd H' D (.lst ws'))) ad' v s
        rw [e]; exact h4
    have st0 : StOk K (G []) (upd H1 D (.lst [])) ad1 mu1 σ ρ := by
      obtain ⟨S2, e2, s2⟩ := S1.alloc (o := .lst []) hD
      have e3 : pub (Mx (fun b => g.M b || decide (b = D)) ad1) (upd H1 D (.lst [])) = pub (Mx g.M ad1) H1 := by
        funext b
        by_cases hb : b = D
        · rw [pub_none ((Mg ad1 b).mpr (.inr hb)), hb, pub_of hf, hD]
        · unfold pub
          have : Mx (fun b => g.M b || decide (b = D)) ad1 b = Mx g.M ad1 b := by unfold Mx; simp [hb]
          rw [this, upd_ne hb]
      have nD : ∀ a ∈ ad1, a ≠ D := fun a ha z => by
        rw [z] at ha
        rw [mx_of.mpr (.inr ha)] at hf; cases hf
      refine ⟨⟨fun b hb => ?_, S1.mu.nd, fun a ha => ?_, S1.mu.len, fun i a c h1 h2 => ?_⟩, fun b hb => ?_, S1.pre, by show Same _ (pub (Mx (fun b => g.M b || decide (b = D)) ad1) (upd H1 D (.lst []))); rw [e3]; exact Same.refl _, S1.ln, fun i s h1 => ?_⟩
      · by_cases hb2 : b = D
        · rw [hb2, upd_same]; rfl
        · rw [upd_ne hb2]
          refine S1.mu.fin b ?_
          have hb : (g.M b || decide (b = D)) = true := hb
          simp [hb2] at hb; exact hb
      · show (g.M a || decide (a = D)) = false
        simp [S1.mu.out a ha, nD a ha]
      · obtain ⟨o, h3, h4⟩ := S1.mu.ct i a c h1 h2
        refine ⟨o, by rw [upd_ne (nD a (List.mem_of_getElem? h1))]; exact h3, ?_⟩
        show CtOk K (pub (Mx (fun b => g.M b || decide (b = D)) ad1) (upd H1 D (.lst []))) a o c
        rw [e3]; exact h4
      · show upd H1 D (.lst []) b = upd g.HM D (.lst []) b
        by_cases hb2 : b = D
        · rw [hb2, upd_same, upd_same]
        · rw [upd_ne hb2, upd_ne hb2]
          refine S1.prot b ?_
          have hb : (g.M b || decide (b = D)) = true := hb
          simp [hb2] at hb; exact hb
      · obtain ⟨v, h3, h4⟩ := S1.sl i s h1
        refine ⟨v, h3, ?_⟩
        show SvOk K (pub (Mx (fun b => g.M b || decide (b = D)) ad1) (upd H1 D (.lst []))) ad1 v s
        rw [e3]; exact h4
    have slots : ∀ {ws : List V} {H' : Hp} {ad' : List Addr} {mu' : List Ct} {σ' : L2.St} {ρ' : Rho}, StOk K (G ws) H' ad' mu' σ' ρ' → H' D = some (.lst ws) := fun {ws H' ad' mu' σ' ρ'} S' => by
      rw [S'.prot D (by show (g.M D || decide (D = D)) = true; simp)]
      exact upd_same
    refine ⟨fun i m H' => m = xs.length - i ∧ i ≤ xs.length ∧ ∃ ws ys ad' mu', StOk K (G ws) H' ad' mu' σ ρ ∧ RepL K (pub (Mx (G ws).M ad') H') ws ys ∧ ys.length ≤ i ∧ I i ys mu',
      ⟨xs.length, by simp, Nat.zero_le _, [], [], ad1, mu1, st0, .nil, Nat.le_refl _, h0⟩, ?_⟩
    rintro i m H' ⟨rfl, hi, ws, ys, ad', mu', S', hr, hyl, hI⟩
    have J1 := hJ (G ws).M (G ws).HM (G ws).ab
    by_cases hlt : i < xs.length
    · have hx : xs[i]? = some xs[i] := List.getElem?_eq_getElem hlt
      obtain ⟨go, hy⟩ := J1.step H' ad' mu' i _ S' (hPm _ _ _ hI) hx
      refine .inr ⟨go, fun H2 => ∃ ws2 ys2 ad2 mu2, StOk K (G ws2) H2 ad2 mu2 σ ρ ∧ RepL K (pub (Mx (G ws2).M ad2) H2) ws2 ys2 ∧ ys2.length ≤ i + 1 ∧ I (i + 1) ys2 mu2, fun H2 p => ⟨xs.length - (i + 1), by omega, rfl, hlt, p⟩, fun v H2 y => ?_⟩
      obtain ⟨S2, s2, hv⟩ := hy v H2 y
      have hr2 : RepL K (pub (Mx (G ws).M ad') H2) ws ys := hr.mono s2
      refine hg.imp _ _ _ _ _ (fun σ2 H3 z q => ⟨z.trans wipe_wipe, q⟩) (hs i _ ys mu' hx hI hyl ((G ws).here H2 ad') H2 ad' (wipe σ vs) v _ (S2.here.wipe vs) hv fun σ3 ρ3 H3 ad3 mu3 S3 q3 => ?_)
      refine q3 ((G ws).here H2 ad') H3 ad3 σ3 _ S3 fun b H4 ad4 mu4 S4 hb => ?_
      cases b with
      | false =>
        have S5 := S2.reslot S4
        exact ⟨ws, ys, ad4, mu4, S5, hr2.mono S4.base, by omega, hb⟩
      | true =>
        have hb : WE K te ρ3 mu4 fun s mu5 => i < 1000000 ∧ I (i + 1) (ys ++ [s.toD]) mu5 := hb
        refine hb ((G ws).here H2 ad') H4 ad4 σ3 _ S4 fun yv s H5 ad5 mu5 S5 hyv ⟨h1, h2⟩ => ?_
        have S6 := S2.reslot S5
        have hr3 := hr2.mono S5.base
        refine ⟨ws, slots S6, Nat.lt_of_lt_of_le (Nat.lt_of_le_of_lt (by rw [hr.length]; exact hyl) h1) (by decide), ws ++ [yv], ys ++ [s.toD], ad5, mu5, chg S6, ?_, by rw [List.length_append, List.length_singleton]; omega, h2⟩
        have hM : (fun b => g.M b || decide (b = D)) D = true := by simp
        have e : pub (Mx (fun b => g.M b || decide (b = D)) ad5) (upd H5 D (.lst (ws ++ [yv]))) = pub (Mx (fun b => g.M b || decide (b = D)) ad5) H5 := pub_updM (mx_of.mpr (.inl hM))
        show RepL K (pub (Mx (fun b => g.M b || decide (b = D)) ad5) (upd H5 D (.lst (ws ++ [yv])))) (ws ++ [yv]) (ys ++ [s.toD])
        rw [e]
        exact hr3.append (.cons hyv.toD .nil)
    · have e : i = xs.length := by omega
      subst e
      have gD : g.M D = false := by
        cases q : g.M D with
        | false => rfl
        | true => rw [mx_of.mpr (.inl q)] at hf; cases hf
      have u := up ad' H'
      have oD : H' D = some (.lst ws) := slots S'
      have nD : D ∉ ad' := fun z => by
        have := S'.mu.out D z
        rw [show (G ws).M D = true by show (g.M D || decide (D = D)) = true; simp] at this; cases this
      have SF : StOk K g H' ad' mu' σ ρ := by
        refine ⟨⟨fun b hb => S'.mu.fin b ?_, S'.mu.nd, fun a ha => ?_, S'.mu.len, fun i a c h1 h2 => ?_⟩, fun b hb => ?_, S'.pre, S1.base.trans (S'.base.trans u), S'.ln, fun i s h1 => ?_⟩
        · show (g.M b || decide (b = D)) = true
          rw [hb]; rfl
        · have : (g.M a || decide (a = D)) = false := S'.mu.out a ha
          cases q : g.M a with
          | false => rfl
          | true => rw [q] at this; cases this
        · obtain ⟨o, h3, h4⟩ := S'.mu.ct i a c h1 h2
          exact ⟨o, h3, h4.mono u⟩
        · have hb2 : b ≠ D := fun z => by rw [z, gD] at hb; cases hb
          rw [S'.prot b (by show (g.M b || decide (b = D)) = true; rw [hb]; rfl)]
          show upd g.HM D (.lst ws) b = g.HM b
          rw [upd_ne hb2]
        · obtain ⟨v, h3, h4⟩ := S'.sl i s h1
          exact ⟨v, h3, h4.mono u List.take_length⟩
      refine .inl ⟨J1.stop H' ad' mu' S' (hPm _ _ _ hI), k (.ref D) (.dat (.lst ys)) H' ad' mu' SF (Rep.lst ?_ (hr.mono u)) (hd ys mu' hI hyl)⟩
      rw [pub_of]
      · exact oD
      · cases z : Mx g.M ad' D with
        | false => rfl
        | true =>
          rcases mx_of.mp z with z | z
          · rw [gD] at z; cases z
          · exact absurd z nD
end
end LP
end

/-- short: all that is told by the syntax alone -/
local macro_rules | `(tactic| walk_at "go") => `(tactic| repeat (first
  | ((with_reducible refine' LP.we_var ?hv ?_); (case hv => exact rfl))
  | (with_reducible refine LP.we_int ?_)
  | (with_reducible refine LP.we_str ?_)
  | (with_reducible refine LP.we_bl ?_)
  | (with_reducible refine LP.we_non ?_)
  | (with_reducible refine LP.we_op ?_)
  | (with_reducible refine LP.wr_add ?_)
  | (with_reducible refine LP.wr_sub ?_)
  | (with_reducible refine LP.wr_lt ?_)
  | (with_reducible refine LP.wr_le ?_)
  | (with_reducible refine LP.wr_gt ?_)
  | (with_reducible refine LP.wr_ge ?_)
  | (with_reducible refine LP.wr_eqI ?_)
  | (with_reducible refine LP.wr_neI ?_)
  | (with_reducible refine LP.wr_eqS ?_)
  | (with_reducible refine LP.wr_neS ?_)
  | (with_reducible refine LP.wr_isN0 ?_)
  | (with_reducible refine LP.wr_isN1 ?_)
  | (with_reducible refine LP.wr_isNT ?_)
  | (with_reducible refine LP.wr_notN0 ?_)
  | (with_reducible refine LP.wr_notN1 ?_)
  | (with_reducible refine LP.bo ?_)
  | (with_reducible refine LP.io ?_)
  | (with_reducible refine LP.lo ?_)
  | (with_reducible refine LP.ift ?_)
  | (with_reducible refine LP.iff' ?_)
  | (with_reducible refine LP.wt_test ?_)
  | (with_reducible refine LP.wt_B ?_)
  | (with_reducible refine LP.wt_and ?_)
  | (with_reducible refine LP.wt_or ?_)
  | (with_reducible refine LP.wt_not ?_)
  | (with_reducible refine LP.we_andV ?_)
  | (with_reducible refine LP.we_orV ?_)
  | (with_reducible refine LP.we_notV ?_)
  | (with_reducible refine LP.we_un ?_)
  | (with_reducible refine LP.we_tup1 ?_)
  | (with_reducible refine LP.we_tup2 ?_)
  | (with_reducible refine LP.we_tup3 ?_)
  | (with_reducible refine LP.we_tup4 ?_)
  | (with_reducible refine LP.we_tup5 ?_)
  | (with_reducible refine LP.wa_nil ?_)
  | (with_reducible refine LP.wa_cons ?_)
  | (with_reducible refine LP.we_call ?_)
  | (with_reducible refine LP.we_cB ?_)
  | (with_reducible refine LP.wc_max2 ?_)
  | (with_reducible refine LP.wc_min2 ?_)
  | (with_reducible refine LP.wc_intB ?_)
  | (with_reducible refine LP.we_slice ?_)
  | (with_reducible refine LP.wo_none ?_)
  | (with_reducible refine LP.wo_some ?_)
  | (with_reducible refine LP.wg_name ?_)
  | ((with_reducible refine' LP.wg_tup ?ht ?_); (case ht => exact rfl))
  | ((with_reducible refine' LP.wg_unl ?ht ?_); (case ht => exact rfl))
  | ((with_reducible refine' LP.ws_aug ?ht ?_); (case ht => exact rfl))
  | (with_reducible refine LP.we_append ?_)
  | ((with_reducible refine' LP.ap1 ?ht ?_); (case ht => exact rfl))
  | (with_reducible refine LP.wgs_nil ?_)
  | (with_reducible refine LP.wgs_cons ?_)
  | (with_reducible refine LP.ws_seq ?_)
  | (with_reducible refine LP.ws_set ?_)
  | (with_reducible refine LP.ws_asg ?_)
  | (with_reducible refine LP.ws_drop ?_)
  | (with_reducible refine LP.ws_if ?_)
  | (with_reducible refine LP.ws_ret ?_)
  | (with_reducible refine LP.ret_d ?_)
  | (with_reducible refine LP.ws_next ?_)
  | (with_reducible refine LP.wt_yes ?_)
  | (with_reducible refine LP.wc_len LP.isl_d ?_)
  | (with_reducible refine LP.we_ktup (by assumption) ?_)
  | ((with_reducible refine' LP.wr_ixT ?ht ?_); (case ht => exact rfl))
  | (dsimp only [LP.toD_d, LP.toD_o, LP.lset0, LP.lsetS, LP.wipe0, LP.wipeS, LP.mapd0, LP.mapdS, LP.lenc0, LP.lencS, LP.appc0, LP.appcS, Nat.reduceAdd, Nat.zero_add])))
/-- short: the same, up to the next if -/
local macro_rules | `(tactic| walk_at "gi") => `(tactic| repeat (first
  | ((with_reducible refine' LP.we_var ?hv ?_); (case hv => exact rfl))
  | (with_reducible refine LP.we_int ?_)
  | (with_reducible refine LP.we_str ?_)
  | (with_reducible refine LP.we_bl ?_)
  | (with_reducible refine LP.we_non ?_)
  | (with_reducible refine LP.we_op ?_)
  | (with_reducible refine LP.wr_add ?_)
  | (with_reducible refine LP.wr_sub ?_)
  | (with_reducible refine LP.wr_lt ?_)
  | (with_reducible refine LP.wr_le ?_)
  | (with_reducible refine LP.wr_gt ?_)
  | (with_reducible refine LP.wr_ge ?_)
  | (with_reducible refine LP.wr_eqI ?_)
  | (with_reducible refine LP.wr_neI ?_)
  | (with_reducible refine LP.wr_eqS ?_)
  | (with_reducible refine LP.wr_neS ?_)
  | (with_reducible refine LP.wr_isN0 ?_)
  | (with_reducible refine LP.wr_isN1 ?_)
  | (with_reducible refine LP.wr_isNT ?_)
  | (with_reducible refine LP.wr_notN0 ?_)
  | (with_reducible refine LP.wr_notN1 ?_)
  | (with_reducible refine LP.bo ?_)
  | (with_reducible refine LP.io ?_)
  | (with_reducible refine LP.lo ?_)
  | (with_reducible refine LP.ift ?_)
  | (with_reducible refine LP.iff' ?_)
  | (with_reducible refine LP.wt_test ?_)
  | (with_reducible refine LP.wt_B ?_)
  | (with_reducible refine LP.wt_and ?_)
  | (with_reducible refine LP.wt_or ?_)
  | (with_reducible refine LP.wt_not ?_)
  | (with_reducible refine LP.we_andV ?_)
  | (with_reducible refine LP.we_orV ?_)
  | (with_reducible refine LP.we_notV ?_)
  | (with_reducible refine LP.we_un ?_)
  | (with_reducible refine LP.we_tup1 ?_)
  | (with_reducible refine LP.we_tup2 ?_)
  | (with_reducible refine LP.we_tup3 ?_)
  | (with_reducible refine LP.we_tup4 ?_)
  | (with_reducible refine LP.we_tup5 ?_)
  | (with_reducible refine LP.wa_nil ?_)
  | (with_reducible refine LP.wa_cons ?_)
  | (with_reducible refine LP.we_call ?_)
  | (with_reducible refine LP.we_cB ?_)
  | (with_reducible refine LP.wc_max2 ?_)
  | (with_reducible refine LP.wc_min2 ?_)
  | (with_reducible refine LP.wc_intB ?_)
  | (with_reducible refine LP.we_slice ?_)
  | (with_reducible refine LP.wo_none ?_)
  | (with_reducible refine LP.wo_some ?_)
  | (with_reducible refine LP.wg_name ?_)
  | ((with_reducible refine' LP.wg_tup ?ht ?_); (case ht => exact rfl))
  | ((with_reducible refine' LP.wg_unl ?ht ?_); (case ht => exact rfl))
  | ((with_reducible refine' LP.ws_aug ?ht ?_); (case ht => exact rfl))
  | (with_reducible refine LP.we_append ?_)
  | ((with_reducible refine' LP.ap1 ?ht ?_); (case ht => exact rfl))
  | (with_reducible refine LP.wgs_nil ?_)
  | (with_reducible refine LP.wgs_cons ?_)
  | (with_reducible refine LP.ws_seq ?_)
  | (with_reducible refine LP.ws_set ?_)
  | (with_reducible refine LP.ws_asg ?_)
  | (with_reducible refine LP.ws_drop ?_)
  | (with_reducible refine LP.ws_ret ?_)
  | (with_reducible refine LP.ret_d ?_)
  | (with_reducible refine LP.ws_next ?_)
  | (with_reducible refine LP.wt_yes ?_)
  | (with_reducible refine LP.wc_len LP.isl_d ?_)
  | (with_reducible refine LP.we_ktup (by assumption) ?_)
  | ((with_reducible refine' LP.wr_ixT ?ht ?_); (case ht => exact rfl))
  | (dsimp only [LP.toD_d, LP.toD_o, LP.lset0, LP.lsetS, LP.wipe0, LP.wipeS, LP.mapd0, LP.mapdS, LP.lenc0, LP.lencS, LP.appc0, LP.appcS, Nat.reduceAdd, Nat.zero_add])))
section
set_option maxHeartbeats 4000000
/-! G1: books: ask_node, holds, aside_of; rules: look_at. -/
namespace LP
open PySem PySem.Spec PyProof.Rows L2
section
variable {P : Program} {w : World} {K : PySem.W.Frag} {mg : Str → Option Value} {base : Heap}

def S_ask_node : PSpec (List Nd × Nat) := ⟨fun x => [encB x.1, .int (x.2 : Int)], fun x => x.2 < x.1.length, fun _ d => d = .non⟩
theorem ok_ask_node (T : Top K mg) : Has P w K mg base 1 "ask_node" ["book", "node"] (spG K S_ask_node.S) := by
  refine has_ok T.d_ask_node sc_ask_node (fun _ => rfl) (fun _ _ _ _ _ _ us hl => match us, hl with | [_, _], _ => rfl) (fun f cdv A outer s H E hr => ⟨_, (pss_one (ps_if (PW.pt (pw_or (pt_cmpR op_lt (pv 1) pe_int (nomark _)) (pw_or1 (pt_cmpR op_ge (pv 1) (pe_callB (call_lenK (K := K) rfl) (by rfl) T.b_len bt_len (pa_cons (pv 0) pa_nil)) (nomark _))))) (pss_one ps_never) pss_nil)), ?_⟩)
  rintro ⟨ns, i⟩ hp
  simp only [cxOf, Cx.nox, Cx.wish, Cx.blk, S_ask_node, N_ask_node, startR, PSpec.S_args, PSpec.S_mu, PSpec.S_pre, PSpec.S_post, List.map_cons, List.map_nil, List.length_cons, List.length_nil, Nat.reduceAdd, Nat.reduceSub, List.replicate_succ, List.replicate_zero, List.cons_append, List.nil_append, List.append_nil] at hp ⊢
  walk_at "go"
  refine ifd (fun h => by omega) fun _ => ?_
  walk_at "go"
  refine ifd (fun h => by rw [List.length_map] at h; omega) fun _ => ?_
  walk_at "go"
  exact ⟨rfl, _, rfl, rfl⟩

def S_holds : PSpec (List Nd × Nat) := ⟨fun x => [encB x.1, .int (x.2 : Int)], fun x => x.2 < x.1.length ∧ x.1.length ≤ 1000, fun x d => d = encN (hold x.1 x.2)⟩
theorem ok_holds (T : Top K mg) : Has P w K mg base 2 "holds" ["book", "node"] (spG K S_holds.S) := by
  have h_ask_node := ok_ask_node (P := P) (w := w) (K := K) (base := base) T
  refine has_ok T.d_holds sc_holds (fun _ => rfl) (fun _ _ _ _ _ _ us hl => match us, hl with | [_, _], _ => rfl) (fun f cdv A outer s H E hr => ⟨_, (pss_cons (ps_expr (pe_has h_ask_node hr (by omega) (by rfl) (pa_cons (pv 0) (pa_cons (pv 1) pa_nil))))
      (pss_one (ps_ret (pe_lc (own := [("other", 2)]) (g := (gName 2)) rfl sc_holds.nd (pi_range2 (by rfl) T.b_range (pa_cons (pe_op op_add (pv 1) pe_int) (pa_cons (pe_callB (call_lenK (K := K) rfl) (by rfl) T.b_len bt_len (pa_cons (pv 0) pa_nil)) pa_nil))) (blkOk_by (N := N_holds) (sc := defScope s_holds) (by decide +kernel)) (fun _ _ _ _ _ => (pg_name (i := 2) sc_holds.nd rfl (.inl rfl))) (fun _ _ _ _ _ => (pts_one (pt_cmpR op_eq (pe_ix (ix_tupK (K := K) rfl) (pe_ix (ix_listK (K := K) rfl) (pv 0) (pv 2) (fun _ _ => rfl)) pe_int (fun _ _ => rfl)) (pv 1) (nomark _)))) (fun _ _ _ _ _ => (pv 2)))))), ?_⟩)
  rintro ⟨ns, i⟩ hp
  simp only [cxOf, Cx.nox, Cx.wish, Cx.blk, S_holds, N_holds, startR, PSpec.S_args, PSpec.S_mu, PSpec.S_pre, PSpec.S_post, List.map_cons, List.map_nil, List.length_cons, List.length_nil, Nat.reduceAdd, Nat.reduceSub, List.replicate_succ, List.replicate_zero, List.cons_append, List.nil_append, List.append_nil] at hp ⊢
  walk_at "go"
  refine ⟨(ns, i), rfl, hp.1, fun d hd => ?_⟩
  walk_at "go"
  refine we_lcP (fun k => decide ((ns.map Nd.el)[i + 1 + k]? = some (i : Int))) (fun k => .int ((i : Int) + 1 + (k : Nat))) (gin_name (by decide)) (wi_r2 ?_)
  walk_at "go"
  rw [List.length_map]
  refine ⟨_, _, rfl, by omega, by rw [rngD_len]; omega, rfl, fun k x hk => ?_, ?_⟩
  · obtain ⟨hk1, rfl⟩ := rngD_get hk
    have hlt : i + 1 + k < ns.length := by omega
    walk_at "go"
    refine wr_ixL isl_d (at_i (i := i + 1 + k) (by omega) (getI hlt)) ?_
    walk_at "go"
    refine ⟨rfl, decide_eq_decide.mpr ?_, fun _ => ?_⟩
    · rw [List.getElem?_map, getI hlt]
      simp
    · walk_at "go"
      exact ⟨rfl, rfl⟩
  · have e : ((ns.length : Int) - ((i : Int) + 1)).toNat = ns.length - (i + 1) := by omega
    rw [rngD_len, e, hold_flt hp.1]
    exact ⟨rfl, _, rfl, rfl⟩

def S_look_at : PSpec (List (List Int) × Nat × Nat × Str × Int) := ⟨fun x => [encLk x.1, .int (x.2.1 : Int), .str x.2.2.2.1],
  fun x => (∃ l, x.1[x.2.1]? = some l ∧ l[x.2.2.1]? = some x.2.2.2.2) ∧ PROPS[x.2.2.1]? = some x.2.2.2.1, fun x d => d = .int x.2.2.2.2⟩
theorem ok_look_at (T : Top K mg) : Has P w K mg base 1 "look_at" ["looks", "node", "word"] (spG K S_look_at.S) := by
  obtain ⟨u_PROPERTIES, m_PROPERTIES, r_PROPERTIES, k_PROPERTIES⟩ := T.c_PROPERTIES
  refine has_ok T.d_look_at sc_look_at (fun _ => rfl) (fun _ _ _ _ _ _ us hl => match us, hl with | [_, _, _], _ => rfl) (fun f cdv A outer s H E hr => ⟨_, (pss_one (ps_ret (pe_ix (ix_listK (K := K) rfl) (pe_ix (ix_listK (K := K) rfl) (pv 0) (pv 1) (fun _ _ => rfl)) (pe_bmK (K := K) rfl PySem.F.plainAttrs_tuple PySem.F.slot_tuple_index PySem.F.type_tuple_index (mt_tupIndexK (K := K) rfl) (pe_glob (by rfl) m_PROPERTIES r_PROPERTIES) (pa_cons (pv 2) pa_nil)) (fun _ _ => rfl)))), ?_⟩)
  rintro ⟨ls, i, j, x, v⟩ hp
  simp only [cxOf, Cx.nox, Cx.wish, Cx.blk, S_look_at, N_look_at, startR, PSpec.S_args, PSpec.S_mu, PSpec.S_pre, PSpec.S_post, List.map_cons, List.map_nil, List.length_cons, List.length_nil, Nat.reduceAdd, Nat.reduceSub, List.replicate_succ, List.replicate_zero, List.cons_append, List.nil_append, List.append_nil] at hp ⊢
  obtain ⟨⟨l, h1, h2⟩, h3⟩ := hp
  walk_at "go"
  refine wr_ixL isl_d (at_m h1) ?_
  refine we_kindex ?_
  walk_at "go"
  refine ⟨_, rfl, ?_⟩
  walk_at "go"
  refine ⟨x, j, rfl, h3, fun m hm he => ?_, ?_⟩
  · exact absurd (nd_ix (l := PROPS) (by decide +kernel) he h3) (by omega)
  · refine wr_ixL isl_d (at_m h2) ?_
    walk_at "go"
    exact ⟨rfl, _, rfl, rfl⟩

/-- a call of look_at -/
theorem lk_go {lks : List (List Int)} {m i j : Nat} {x : Str} {Ψ : D → Prop} (h : LkOk lks m) (hi : i < m) (hj : PROPS[j]? = some x) (q : Ψ (.int (lk lks i j))) : ∃ y, [SV.dat (encLk lks), .dat (.int (i : Int)), .dat (.str x)] = (S_look_at.args y).map .dat ∧ S_look_at.pre y ∧ ∀ d, S_look_at.post y d → Ψ d :=
  ⟨(lks, i, j, x, lk lks i j), rfl, ⟨h.get hi (show j < 13 from (List.getElem?_eq_some_iff.mp hj).1), hj⟩, fun d hd => by simp only [S_look_at] at hd; subst hd; exact q⟩

/-- the aside next to which a text stands -/
def asideOf (ns : List Nd) (i : Nat) : Option Nat :=
  match ns[i]? with
  | none => none
  | some n => if i = 0 ∨ n.kd ≠ .text then none else
    let some' := hold ns n.el.toNat
    let at' := some'.idxOf i
    if at' = 0 then none else
      match some'[at' - 1]? with
      | none => none
      | some j => match ns[j]? with
        | none => none
        | some m => if m.kd = .aside then some j else none
def encON : Option Nat → D
  | none => .non
  | some j => .int (j : Int)
def S_aside_of : PSpec (List Nd × Nat) := ⟨fun x => [encB x.1, .int (x.2 : Int)],
  fun x => x.1.length ≤ 1000 ∧ ∃ n, x.1[x.2]? = some n ∧ (x.2 ≠ 0 → n.kd = .text → ∃ e : Nat, n.el = (e : Int) ∧ e < x.2), fun x d => d = encON (asideOf x.1 x.2)⟩
theorem ok_aside_of (T : Top K mg) : Has P w K mg base 3 "aside_of" ["book", "node"] (spG K S_aside_of.S) := by
  have h_holds := ok_holds (P := P) (w := w) (K := K) (base := base) T
  refine has_ok T.d_aside_of sc_aside_of (fun _ => rfl) (fun _ _ _ _ _ _ us hl => match us, hl with | [_, _], _ => rfl) (fun f cdv A outer s H E hr => ⟨_, (pss_cons (ps_if (PW.pt (pw_or (pt_cmpR op_eq (pv 1) pe_int (nomark _)) (pw_or1 (pt_cmpR op_ne (pe_ix (ix_tupK (K := K) rfl) (pe_ix (ix_listK (K := K) rfl) (pv 0) (pv 1) (fun _ _ => rfl)) pe_int (fun _ _ => rfl)) pe_str (nomark _))))) (pss_one (ps_ret pe_non)) pss_nil)
      (pss_cons (ps_set (i := 2) sc_aside_of.nd rfl (.inl rfl) (pe_has h_holds hr (by omega) (by rfl) (pa_cons (pv 0) (pa_cons (pe_ix (ix_tupK (K := K) rfl) (pe_ix (ix_listK (K := K) rfl) (pv 0) (pv 1) (fun _ _ => rfl)) pe_int (fun _ _ => rfl)) pa_nil))))
      (pss_cons (ps_set (i := 3) sc_aside_of.nd rfl (.inl rfl) (pe_bmK (K := K) rfl PySem.F.plainAttrs_list PySem.F.slot_list_index PySem.F.type_list_index (mt_indexK (K := K) rfl) (pv 2) (pa_cons (pv 1) pa_nil)))
      (pss_cons (ps_if (PW.pt (pw_or (pt_cmpR op_eq (pv 3) pe_int (nomark _)) (pw_or1 (pt_cmpR op_ne (pe_ix (ix_tupK (K := K) rfl) (pe_ix (ix_listK (K := K) rfl) (pv 0) (pe_ix (ix_listK (K := K) rfl) (pv 2) (pe_op op_sub (pv 3) pe_int) (fun _ _ => rfl)) (fun _ _ => rfl)) pe_int (fun _ _ => rfl)) pe_str (nomark _))))) (pss_one (ps_ret pe_non)) pss_nil)
      (pss_one (ps_ret (pe_ix (ix_listK (K := K) rfl) (pv 2) (pe_op op_sub (pv 3) pe_int) (fun _ _ => rfl)))))))), ?_⟩)
  rintro ⟨ns, i⟩ hp
  simp only [cxOf, Cx.nox, Cx.wish, Cx.blk, S_aside_of, N_aside_of, startR, PSpec.S_args, PSpec.S_mu, PSpec.S_pre, PSpec.S_post, List.map_cons, List.map_nil, List.length_cons, List.length_nil, Nat.reduceAdd, Nat.reduceSub, List.replicate_succ, List.replicate_zero, List.cons_append, List.nil_append, List.append_nil] at hp ⊢
  obtain ⟨hl, n, hn, he⟩ := hp
  have hi : i < ns.length := (List.getElem?_eq_some_iff.mp hn).1
  walk_at "go"
  refine ifd (fun h0 => ?_) (fun h0 => ?_)
  · walk_at "go"
    refine ⟨rfl, _, rfl, ?_⟩
    unfold asideOf
    rw [hn]
    have : i = 0 := by omega
    simp [this, encON]
  walk_at "go"
  refine wr_ixL isl_d (at_m hn) ?_
  walk_at "go"
  refine ifn (fun h1 => ?_) (fun h1 => ?_)
  · walk_at "go"
    refine ⟨rfl, _, rfl, ?_⟩
    unfold asideOf
    rw [hn]
    have h2 : n.kd ≠ .text := fun e => h1 (by rw [e]; rfl)
    simp [h2, encON]
  have hk : n.kd = .text := Kd.inj (b := .text) h1
  obtain ⟨e, hel, hei⟩ := he (by omega) hk
  have hm : i ∈ hold ns e := mem_hold.mpr ⟨hi, hei, by rw [List.getElem?_map, hn]; exact congrArg some hel⟩
  walk_at "go"
  refine wr_ixL isl_d (at_m hn) ?_
  walk_at "go"
  refine ⟨(ns, e), by rw [hel] <;> rfl, ⟨by show e < ns.length; omega, hl⟩, fun d hd => ?_⟩
  subst hd
  walk_at "go"
  refine we_lindex ?_
  walk_at "go"
  have hme : encN (hold ns e) = D.lst (((hold ns e).map fun (j : Nat) => (j : Int)).map D.int) := by rw [List.map_map]; rfl
  refine ⟨_, by rw [← hme], ?_⟩
  walk_at "go"
  have hix : (hold ns e).idxOf i < (hold ns e).length := List.idxOf_lt_length_iff.mpr hm
  have hat : (hold ns e)[(hold ns e).idxOf i]? = some i := by
    rw [getI hix, List.getElem_idxOf hix]
  refine ⟨(i : Int), (hold ns e).idxOf i, rfl, by rw [List.getElem?_map, hat]; rfl, fun m hm2 hz => ?_, ?_⟩
  · rw [List.getElem?_map] at hz
    cases q : (hold ns e)[m]? with
    | none => rw [q] at hz; cases hz
    | some j =>
      rw [q] at hz
      have hj : j = i := by
        have z2 : (j : Int) = (i : Int) := Option.some.inj hz
        omega
      subst hj
      exact absurd (nd_ix (hold_nodup ns e) q hat) (by omega)
  walk_at "go"
  have has : asideOf ns i = if (hold ns e).idxOf i = 0 then none else match (hold ns e)[(hold ns e).idxOf i - 1]? with
      | none => none
      | some j => match ns[j]? with
        | none => none
        | some m => if m.kd = .aside then some j else none := by
    unfold asideOf
    rw [hn]
    have : n.el.toNat = e := by omega
    simp only [hk, this]
    have h3 : ¬ (i = 0 ∨ Kd.text ≠ Kd.text) := by
      rintro (h | h)
      · omega
      · exact h rfl
    rw [if_neg h3]
  refine ifd (fun h2 => ?_) (fun h2 => ?_)
  · walk_at "go"
    refine ⟨rfl, _, rfl, ?_⟩
    rw [has, if_pos (by omega)]; rfl
  have hne : (hold ns e).idxOf i ≠ 0 := by omega
  obtain ⟨j, hj⟩ : ∃ j, (hold ns e)[(hold ns e).idxOf i - 1]? = some j := ⟨_, getI (by omega)⟩
  have hjl : j < ns.length := (mem_hold.mp (List.mem_of_getElem? hj)).1
  have hjn := getI hjl
  walk_at "go"
  refine wr_ixL isl_d (at_i (i := (hold ns e).idxOf i - 1) (by omega) hj) ?_
  refine wr_ixL isl_d (at_m hjn) ?_
  walk_at "go"
  rw [if_neg hne, hj] at has
  simp only [hjn] at has
  refine ifn (fun h3 => ?_) (fun h3 => ?_)
  · walk_at "go"
    refine ⟨rfl, _, rfl, ?_⟩
    rw [has, if_neg (fun z => h3 (by rw [z]; rfl))]; rfl
  · walk_at "go"
    refine wr_ixL isl_d (at_i (i := (hold ns e).idxOf i - 1) (by omega) hj) ?_
    refine ⟨rfl, _, rfl, ?_⟩
    rw [has, if_pos (Kd.inj (b := .aside) h3)]; rfl
end
end LP
end

section
set_option maxHeartbeats 4000000
/-! G2: breaks. -/
namespace LP
open PySem PySem.Spec PyProof.Rows L2
section
variable {P : Program} {w : World} {K : PySem.W.Frag} {mg : Str → Option Value} {base : Heap}

/-- how wide a row is, the first ones narrower -/
def wor (width count by' row : Int) : Int := if row < count then (if 0 > width - by' then 0 else width - by') else width
def S_width_of_row : PSpec (Int × Int × Int × Int) := ⟨fun x => [.int x.1, pr (x.2.1, x.2.2.1), .int x.2.2.2], fun _ => True, fun x d => d = .int (wor x.1 x.2.1 x.2.2.1 x.2.2.2)⟩
theorem ok_width_of_row (T : Top K mg) : Has P w K mg base 1 "width_of_row" ["width", "narrow", "row"] (spG K S_width_of_row.S) := by
  refine has_ok T.d_width_of_row sc_width_of_row (fun _ => rfl) (fun _ _ _ _ _ _ us hl => match us, hl with | [_, _, _], _ => rfl) (fun f cdv A outer s H E hr => ⟨_, (pss_cons (ps_asg (pv 1) (pg_tupK (K := K) rfl rfl (pgs_cons (pg_name (i := 3) sc_width_of_row.nd rfl (.inl rfl)) (pgs_cons (pg_name (i := 4) sc_width_of_row.nd rfl (.inl rfl)) pgs_nil))))
      (pss_cons (ps_if (pt_cmpR op_lt (pv 2) (pv 3) (nomark _)) (pss_one (ps_ret (pe_callB (call_max2 rfl) (by rfl) T.b_max bt_max (pa_cons (pe_op op_sub (pv 0) (pv 4)) (pa_cons pe_int pa_nil))))) pss_nil)
      (pss_one (ps_ret (pv 0))))), ?_⟩)
  rintro ⟨a, c, b, r⟩ hp
  simp only [cxOf, Cx.nox, Cx.wish, Cx.blk, S_width_of_row, N_width_of_row, startR, PSpec.S_args, PSpec.S_mu, PSpec.S_pre, PSpec.S_post, List.map_cons, List.map_nil, List.length_cons, List.length_nil, Nat.reduceAdd, Nat.reduceSub, List.replicate_succ, List.replicate_zero, List.cons_append, List.nil_append, List.append_nil] at hp ⊢
  walk_at "go"
  refine ifd (fun h => ?_) (fun h => ?_)
  · walk_at "go"
    exact ⟨rfl, _, rfl, by unfold wor; rw [if_pos h]⟩
  · walk_at "go"
    exact ⟨rfl, _, rfl, by unfold wor; rw [if_neg h]⟩

def S_blemish_of : PSpec (Int × Int × Bool × Bool) := ⟨fun x => [.int x.1, .int x.2.1, .bl x.2.2.1, .bl x.2.2.2], fun x => -100000000000000000 ≤ x.1 ∧ x.1 ≤ 100000000000000000 ∧ -100000000000000000 ≤ x.2.1 ∧ x.2.1 ≤ 100000000000000000,
  fun x d => (x.1 > x.2.1 ∧ x.2.2.1 = false ∧ d = .non) ∨ (¬ (x.1 > x.2.1 ∧ x.2.2.1 = false) ∧ ∃ b, d = .int b)⟩
theorem ok_blemish_of (T : Top K mg) : Has P w K mg base 1 "blemish_of" ["length", "room", "alone", "ends"] (spG K S_blemish_of.S) := by
  obtain ⟨u_TOO_LONG, m_TOO_LONG, r_TOO_LONG, k_TOO_LONG⟩ := T.c_TOO_LONG
  refine has_ok T.d_blemish_of sc_blemish_of (fun _ => rfl) (fun _ _ _ _ _ _ us hl => match us, hl with | [_, _, _, _], _ => rfl) (fun f cdv A outer s H E hr => ⟨_, (pss_cons (ps_if (pt_cmpR op_gt (pv 0) (pv 1) (nomark _)) (pss_cons (ps_if (pt_not (pt_val (pv 2))) (pss_one (ps_ret pe_non)) pss_nil)
      (pss_one (ps_ret (pe_op op_sub (pe_op op_add (pe_glob (by rfl) m_TOO_LONG r_TOO_LONG) (pv 0)) (pv 1))))) pss_nil)
      (pss_cons (ps_if (pt_val (pv 3)) (pss_one (ps_ret pe_int)) pss_nil)
      (pss_one (ps_ret (pe_op op_mul (pe_op op_sub (pv 1) (pv 0)) (pe_op op_sub (pv 1) (pv 0))))))), ?_⟩)
  rintro ⟨l, r, al, en⟩ hp
  simp only [cxOf, Cx.nox, Cx.wish, Cx.blk, S_blemish_of, N_blemish_of, startR, PSpec.S_args, PSpec.S_mu, PSpec.S_pre, PSpec.S_post, List.map_cons, List.map_nil, List.length_cons, List.length_nil, Nat.reduceAdd, Nat.reduceSub, List.replicate_succ, List.replicate_zero, List.cons_append, List.nil_append, List.append_nil] at hp ⊢
  walk_at "go"
  refine ifd (fun h => ?_) (fun h => ?_)
  · walk_at "go"
    cases al with
    | false =>
      walk_at "go"
      refine ift ?_
      walk_at "go"
      exact ⟨rfl, _, rfl, .inl ⟨h, rfl, rfl⟩⟩
    | true =>
      refine iff' ?_
      walk_at "go"
      exact ⟨rfl, _, rfl, .inr ⟨fun z => (by cases z.2), _, rfl⟩⟩
  · walk_at "go"
    refine ifb (fun h2 => ?_) (fun h2 => ?_)
    · walk_at "go"
      exact ⟨rfl, _, rfl, .inr ⟨fun z => h z.1, _, rfl⟩⟩
    · walk_at "go"
      refine wr_mul (.inl ⟨by omega, by omega⟩) ?_
      exact ⟨rfl, _, rfl, .inr ⟨fun z => h z.1, _, rfl⟩⟩

/-- how long units are beside one another -/
def rowLen (us : List Un) (f l : Nat) : Int := (((us.drop f).take (l - f)).map Un.w).sum + (((us.drop f).take (l - f - 1)).map Un.b).sum
theorem rowLen_self (us : List Un) (l : Nat) : rowLen us l l = 0 := by unfold rowLen; simp
theorem rowLen_step {us : List Un} {f l : Nat} {u : Un} (h : us[f]? = some u) (hl : f < l) : rowLen us f l = u.w + (if f < l - 1 then u.b else 0) + rowLen us (f + 1) l := by
  obtain ⟨hf, e⟩ := List.getElem?_eq_some_iff.mp h
  unfold rowLen
  rw [List.drop_eq_getElem_cons hf, e]
  obtain ⟨m, rfl⟩ : ∃ m, l = f + 1 + m := ⟨l - f - 1, by omega⟩
  rw [show f + 1 + m - f = m + 1 by omega, show f + 1 + m - (f + 1) = m by omega, show m + 1 - 1 = m by omega, List.take_succ_cons, List.map_cons, List.sum_cons]
  cases m with
  | zero => simp
  | succ k =>
    rw [List.take_succ_cons, List.map_cons, List.sum_cons, if_pos (by omega), show k + 1 - 1 = k by omega]
    omega
/-- a row that may be: not longer than its width, or of one unit -/
def Fits (us : List Un) (f l : Nat) (room : Int) : Prop := rowLen us f l ≤ room ∨ l - f = 1
/-- with which units a row before another one may begin -/
def Cand (us : List Un) (room : Int) (l f : Nat) : Prop := f < l ∧ ∀ f', f ≤ f' → f' < l → Fits us f' l room
/-- units as they are in the program's texts -/
def GoodU (us : List Un) : Prop := us.length ≤ 1000 ∧ ∀ u ∈ us, 0 ≤ u.w ∧ u.w ≤ 100000 ∧ 0 ≤ u.b ∧ u.b ≤ 100000
theorem rowLen_bounds {us : List Un} (g : GoodU us) {l : Nat} (hl : l ≤ us.length) : ∀ k, k ≤ l → 0 ≤ rowLen us (l - k) l ∧ rowLen us (l - k) l ≤ 200000 * k
  | 0, _ => by rw [Nat.sub_zero, rowLen_self]; omega
  | k + 1, h => by
    have ih := rowLen_bounds g hl k (by omega)
    have hx := getI (xs := us) (i := l - (k + 1)) (by omega)
    rw [rowLen_step hx (by omega), show l - (k + 1) + 1 = l - k by omega]
    obtain ⟨b1, b2, b3, b4⟩ := g.2 _ (List.mem_of_getElem? hx)
    split <;> omega
def S_rows_ending : PSpec (List Un × Nat × Int) := ⟨fun x => [encU x.1, .int (x.2.1 : Int), .int x.2.2], fun x => GoodU x.1 ∧ 1 ≤ x.2.1 ∧ x.2.1 ≤ x.1.length ∧ -10000000000000000 ≤ x.2.2 ∧ x.2.2 ≤ 10000000000000000,
  fun x d => ∃ ps : List (Nat × Int), d = .lst (ps.map fun p => .tup [.int (p.1 : Int), .int p.2]) ∧ ∀ f, (∃ b, (f, b) ∈ ps) ↔ Cand x.1 x.2.2 x.2.1 f⟩
theorem ok_rows_ending (T : Top K mg) : Has P w K mg base 2 "rows_ending" ["units", "last", "room"] (spG K S_rows_ending.S) := by
  have h_blemish_of := ok_blemish_of (P := P) (w := w) (K := K) (base := base) T
  refine has_ok T.d_rows_ending sc_rows_ending (fun _ => rfl) (fun _ _ _ _ _ _ us hl => match us, hl with | [_, _, _], _ => rfl) (fun f cdv A outer s H E hr => ⟨_, (pss_cons (ps_set (i := 3) sc_rows_ending.nd rfl (.inl rfl) (pe_lst pa_nil))
      (pss_cons (ps_set (i := 4) sc_rows_ending.nd rfl (.inl rfl) pe_int)
      (pss_cons (ps_for PassesOwn.never rfl (pi_range3 (by rfl) T.b_range (pa_cons (pe_op op_sub (pv 1) pe_int) (pa_cons (pe_un un_neg pe_int) (pa_cons (pe_un un_neg pe_int) pa_nil)))) (pg_name (i := 5) sc_rows_ending.nd rfl (.inl rfl)) (pss_cons (ps_aug (i := 4) sc_rows_ending.nd rfl (.inl rfl) (pe_ix (ix_tupK (K := K) rfl) (pe_ix (ix_listK (K := K) rfl) (pv 0) (pv 5) (fun _ _ => rfl)) pe_int (fun _ _ => rfl)) ip_add)
      (pss_cons (ps_if (pt_cmpR op_lt (pv 5) (pe_op op_sub (pv 1) pe_int) (nomark _)) (pss_one (ps_aug (i := 4) sc_rows_ending.nd rfl (.inl rfl) (pe_ix (ix_tupK (K := K) rfl) (pe_ix (ix_listK (K := K) rfl) (pv 0) (pv 5) (fun _ _ => rfl)) pe_int (fun _ _ => rfl)) ip_add)) pss_nil)
      (pss_cons (ps_set (i := 6) sc_rows_ending.nd rfl (.inl rfl) (pe_has h_blemish_of hr (by omega) (by rfl) (pa_cons (pv 4) (pa_cons (pv 2) (pa_cons (pe_cmpR op_eq (pe_op op_sub (pv 1) (pv 5)) pe_int (nomark _)) (pa_cons (pe_cmpR op_eq (pv 1) (pe_callB (call_lenK (K := K) rfl) (by rfl) T.b_len bt_len (pa_cons (pv 0) pa_nil)) (nomark _)) pa_nil))))))
      (pss_cons (ps_if (pt_cmpR op_isN (pv 6) pe_non (nomark _)) (pss_one (ps_ret (pv 3))) pss_nil)
      (pss_one (ps_expr (pe_bmK (K := K) rfl PySem.F.plainAttrs_list PySem.F.slot_list_append PySem.F.type_list_append mt_append (pv 3) (pa_cons (pe_tup (pa_cons (pv 5) (pa_cons (pv 6) pa_nil))) pa_nil)))))))))
      (pss_one (ps_ret (pv 3)))))), ?_⟩)
  rintro ⟨us, l, room⟩ hp
  simp only [cxOf, Cx.nox, Cx.wish, Cx.blk, S_rows_ending, N_rows_ending, startR, PSpec.S_args, PSpec.S_mu, PSpec.S_pre, PSpec.S_post, List.map_cons, List.map_nil, List.length_cons, List.length_nil, Nat.reduceAdd, Nat.reduceSub, List.replicate_succ, List.replicate_zero, List.cons_append, List.nil_append, List.append_nil] at hp ⊢
/- 0:units, 1:last, 2:room, 3:found, 4:length, 5:first, 6:blemish -/
  obtain ⟨hg, h1, h2, h3, h4⟩ := hp
  walk_at "go"
  refine we_lstM0 ?_
  walk_at "go"
  refine ws_for (fun i r m => ∃ (ps : List (Nat × Int)) (x y : Option SV), r = [some (.dat (encU us)), some (.dat (.int (l : Int))), some (.dat (.int room)), some (.ob 0), some (.dat (.int (rowLen us (l - i) l))), x, y] ∧
    m = [.lst (ps.map fun p => .tup [.int (p.1 : Int), .int p.2])] ∧ ps.length = i ∧ i ≤ l ∧ (∀ f', l - i ≤ f' → f' < l → Fits us f' l room) ∧ ∀ f, (∃ b, (f, b) ∈ ps) ↔ (l - i ≤ f ∧ f < l)) (wi_r3 ?_)
  walk_at "go"
  have hl := hg.1
  refine ⟨_, _, rfl, by omega, ⟨[], none, none, by rw [Nat.sub_zero, rowLen_self], rfl, rfl, Nat.zero_le _, fun f' a b => by omega, fun f => ⟨fun ⟨b, z⟩ => (by cases z), fun z => by omega⟩⟩, ?_, ?_⟩
  · rintro i d r m hd ⟨ps, x, y, rfl, rfl, hpl, hi, hfit, hps⟩
    obtain ⟨hi2, rfl⟩ := dwnD_get hd
    have hi3 : i < l := by omega
    have hn : l - i - 1 < us.length := by omega
    have hz : (l : Int) - 1 - (i : Nat) = ((l - i - 1 : Nat) : Int) := by omega
    rw [hz]
    have hst : rowLen us (l - (i + 1)) l = us[l - i - 1].w + (if l - i - 1 < l - 1 then us[l - i - 1].b else 0) + rowLen us (l - i) l := by
      have := rowLen_step (getI hn) (show l - i - 1 < l by omega)
      rw [show l - i - 1 + 1 = l - i by omega] at this
      exact this
    have hbd := rowLen_bounds hg h2 (i + 1) (by omega)
    walk_at "gi"
    refine wr_ixL isl_d (at_m (getI hn)) ?_
    walk_at "gi"
    refine ws_mid (fun r m => r = [some (.dat (encU us)), some (.dat (.int (l : Int))), some (.dat (.int room)), some (.ob 0), some (.dat (.int (rowLen us (l - (i + 1)) l))), some (.dat (.int ((l - i - 1 : Nat) : Int))), y] ∧
      m = [.lst (ps.map fun p => .tup [.int (p.1 : Int), .int p.2])]) ?_ ?_
    · walk_at "go"
      refine ifd (fun c => ?_) (fun c => ?_)
      · walk_at "go"
        refine wr_ixL isl_d (at_m (getI hn)) ?_
        walk_at "go"
        rw [if_pos (by omega)] at hst
        exact ⟨by rw [hst, show rowLen us (l - i) l + us[l - i - 1].w + us[l - i - 1].b = us[l - i - 1].w + us[l - i - 1].b + rowLen us (l - i) l by omega], rfl⟩
      · walk_at "go"
        rw [if_neg (by omega)] at hst
        exact ⟨by rw [hst, show rowLen us (l - i) l + us[l - i - 1].w = us[l - i - 1].w + 0 + rowLen us (l - i) l by omega], rfl⟩
    rintro r m ⟨rfl, rfl⟩
    walk_at "go"
    refine ⟨(rowLen us (l - (i + 1)) l, room, decide ((l : Int) - ((l - i - 1 : Nat) : Int) = 1), decide ((l : Int) = ((us.map Un.enc).length : Int))), rfl, ⟨by show -100000000000000000 ≤ rowLen us (l - (i + 1)) l; omega, by show rowLen us (l - (i + 1)) l ≤ 100000000000000000; omega, by show -100000000000000000 ≤ room; omega, by show room ≤ 100000000000000000; omega⟩, fun d hd => ?_⟩
    simp only [S_blemish_of] at hd
    have hal : decide ((l : Int) - ((l - i - 1 : Nat) : Int) = 1) = decide (i = 0) := decide_eq_decide.mpr (by omega)
    rw [hal] at hd
    rcases hd with ⟨e1, e2, rfl⟩ | ⟨e1, b, rfl⟩
    · have e2 : i ≠ 0 := of_decide_eq_false e2
      walk_at "go"
      refine ret_m (Nat.zero_le _) rfl ⟨rfl, _, rfl, ps, rfl, fun f => ?_⟩
      rw [hps]
      refine ⟨fun ⟨a, b⟩ => ⟨b, fun f' c d => hfit f' (by omega) d⟩, fun ⟨a, b⟩ => ⟨?_, a⟩⟩
      rcases Nat.lt_or_ge f (l - i) with c | c
      · exfalso
        have := b (l - (i + 1)) (by omega) (by omega)
        unfold Fits at this
        rcases this with z | z
        · have e1 : rowLen us (l - (i + 1)) l > room := e1
          omega
        · omega
      · exact c
    · walk_at "go"
      refine ap2 rfl (by rw [List.length_map]; omega) ?_
      walk_at "go"
      have hf : Fits us (l - (i + 1)) l room := by
        by_cases c : rowLen us (l - (i + 1)) l > room
        · right
          have : ¬ i ≠ 0 := fun z => e1 ⟨c, decide_eq_false z⟩
          omega
        · left; omega
      refine ⟨ps ++ [(l - (i + 1), b)], _, _, rfl, ?_, by rw [List.length_append]; simp [hpl], hi3, fun f' a c => ?_, fun f => ?_⟩
      · rw [List.map_append]; rfl
      · by_cases e : f' = l - (i + 1)
        · rw [e]; exact hf
        · exact hfit f' (by omega) c
      · constructor
        · rintro ⟨b', hb⟩
          rcases List.mem_append.mp hb with z | z
          · have := (hps f).mp ⟨b', z⟩
            omega
          · rw [List.mem_singleton] at z
            have : f = l - (i + 1) := congrArg Prod.fst z
            omega
        · rintro ⟨a, c⟩
          by_cases e : f = l - (i + 1)
          · exact ⟨b, List.mem_append_right _ (by rw [List.mem_singleton, e])⟩
          · obtain ⟨b', hb⟩ := (hps f).mpr ⟨by omega, c⟩
            exact ⟨b', List.mem_append_left _ hb⟩
  · rintro r m ⟨ps, x, y, rfl, rfl, hpl, hi, hfit, hps⟩
    walk_at "go"
    refine ret_m (Nat.zero_le _) rfl ⟨rfl, _, rfl, ps, rfl, fun f => ?_⟩
    rw [dwnD_len] at hfit hps hi
    have e : ((l : Int) - 1 - -1).toNat = l := by omega
    rw [e] at hfit hps
    rw [hps]
    exact ⟨fun ⟨a, b⟩ => ⟨b, fun f' c d => hfit f' (by omega) d⟩, fun ⟨a, b⟩ => ⟨by omega, a⟩⟩
end
end LP
end

section
set_option maxHeartbeats 4000000
/-! G2b: breaks, the sums. -/
namespace LP
open PySem PySem.Spec PyProof.Rows L2
@[reducible] def encOs (xs : List (Option Int)) : D := .lst (xs.map encO)
def NN (ah : List (Option Int)) (f : Nat) : Prop := ∃ a, ah[f]? = some (some a)
theorem wor_bd {w c b row : Int} (h1 : -1000000000000000 ≤ w ∧ w ≤ 1000000000000000) (h2 : -1000000000000000 ≤ b ∧ b ≤ 1000000000000000) : -10000000000000000 ≤ wor w c b row ∧ wor w c b row ≤ 10000000000000000 := by
  unfold wor
  split
  · split <;> omega
  · omega
structure LSg where
  us : List Un
  ah : List (Option Int)
  l : Nat
  w : Int
  c : Int
  b : Int
  row : Int
def WB (w b : Int) : Prop := (-1000000000000000 ≤ w ∧ w ≤ 1000000000000000) ∧ (-1000000000000000 ≤ b ∧ b ≤ 1000000000000000)
section
variable {P : Program} {w : World} {K : PySem.W.Frag} {mg : Str → Option Value} {base : Heap}
def S_least_sum : PSpec LSg := ⟨fun x => [encU x.us, encOs x.ah, .int (x.l : Int), .int x.w, pr (x.c, x.b), .int x.row],
  fun x => GoodU x.us ∧ 1 ≤ x.l ∧ x.l ≤ x.us.length ∧ x.l ≤ x.ah.length ∧ WB x.w x.b,
  fun x d => (d = .tup [.non, .non] ∧ ∀ f, Cand x.us (wor x.w x.c x.b x.row) x.l f → ¬ NN x.ah f) ∨ ∃ (s : Int) (f : Nat), d = .tup [.int s, .int (f : Int)] ∧ Cand x.us (wor x.w x.c x.b x.row) x.l f ∧ NN x.ah f⟩
theorem ok_least_sum (T : Top K mg) : Has P w K mg base 3 "least_sum" ["units", "ahead", "last", "width", "narrow", "row"] (spG K S_least_sum.S) := by
  have h_rows_ending := ok_rows_ending (P := P) (w := w) (K := K) (base := base) T
  have h_width_of_row := ok_width_of_row (P := P) (w := w) (K := K) (base := base) T
  refine has_ok T.d_least_sum sc_least_sum (fun _ => rfl) (fun _ _ _ _ _ _ us hl => match us, hl with | [_, _, _, _, _, _], _ => rfl) (fun f cdv A outer s H E hr => ⟨_, (pss_cons (ps_set (i := 6) sc_least_sum.nd rfl (.inl rfl) pe_non)
      (pss_cons (ps_set (i := 7) sc_least_sum.nd rfl (.inl rfl) pe_non)
      (pss_cons (ps_for PassesOwn.never rfl (pi_listK (K := K) rfl (pe_has h_rows_ending hr (by omega) (by rfl) (pa_cons (pv 0) (pa_cons (pv 2) (pa_cons (pe_has h_width_of_row hr (by omega) (by rfl) (pa_cons (pv 3) (pa_cons (pv 4) (pa_cons (pv 5) pa_nil)))) pa_nil))))) (pg_tupK (K := K) rfl rfl (pgs_cons (pg_name (i := 8) sc_least_sum.nd rfl (.inl rfl)) (pgs_cons (pg_name (i := 9) sc_least_sum.nd rfl (.inl rfl)) pgs_nil))) (pss_one (ps_if (PW.pt (pw_and (pt_cmpR op_notN (pe_ix (ix_listK (K := K) rfl) (pv 1) (pv 8) (fun _ _ => rfl)) pe_non (nomark _)) (pw_and1 (PW.pt (pw_or (pt_cmpR op_isN (pv 6) pe_non (nomark _)) (pw_or1 (pt_cmpR op_le (pe_op op_add (pe_ix (ix_listK (K := K) rfl) (pv 1) (pv 8) (fun _ _ => rfl)) (pv 9)) (pv 6) (nomark _)))))))) (pss_cons (ps_set (i := 6) sc_least_sum.nd rfl (.inl rfl) (pe_op op_add (pe_ix (ix_listK (K := K) rfl) (pv 1) (pv 8) (fun _ _ => rfl)) (pv 9)))
      (pss_one (ps_set (i := 7) sc_least_sum.nd rfl (.inl rfl) (pv 8)))) pss_nil)))
      (pss_one (ps_ret (pe_tup (pa_cons (pv 6) (pa_cons (pv 7) pa_nil)))))))), ?_⟩)
  rintro ⟨us, ah, l, wd, c, b, row⟩ hp
  simp only [cxOf, Cx.nox, Cx.wish, Cx.blk, S_least_sum, N_least_sum, startR, PSpec.S_args, PSpec.S_mu, PSpec.S_pre, PSpec.S_post, List.map_cons, List.map_nil, List.length_cons, List.length_nil, Nat.reduceAdd, Nat.reduceSub, List.replicate_succ, List.replicate_zero, List.cons_append, List.nil_append, List.append_nil] at hp ⊢
  obtain ⟨hg, h1, h2, h3, h4, h5⟩ := hp
  have hw := wor_bd (c := c) (row := row) h4 h5
  walk_at "go"
  refine ws_forE (wi_list ?_)
  walk_at "go"
  refine ⟨(wd, c, b, row), rfl, trivial, fun d hd => ?_⟩
  simp only [S_width_of_row] at hd
  subst hd
  walk_at "go"
  refine ⟨(us, l, wor wd c b row), rfl, ⟨hg, h1, h2, hw.1, hw.2⟩, fun d hd => ?_⟩
  simp only [S_rows_ending] at hd
  obtain ⟨ps, rfl, hps⟩ := hd
  walk_at "go"
  refine ⟨fun i r m => m = [] ∧ ∃ (x y : Option SV), (r = [some (.dat (encU us)), some (.dat (encOs ah)), some (.dat (.int (l : Int))), some (.dat (.int wd)), some (.dat (pr (c, b))), some (.dat (.int row)), some (.dat .non), some (.dat .non), x, y] ∧
      ∀ k p, k < i → ps[k]? = some p → ¬ NN ah p.1) ∨
    ∃ (s : Int) (f : Nat), r = [some (.dat (encU us)), some (.dat (encOs ah)), some (.dat (.int (l : Int))), some (.dat (.int wd)), some (.dat (pr (c, b))), some (.dat (.int row)), some (.dat (.int s)), some (.dat (.int (f : Int))), x, y] ∧ Cand us (wor wd c b row) l f ∧ NN ah f,
    ⟨rfl, none, none, .inl ⟨rfl, fun k p hk => by omega⟩⟩, ?_, ?_⟩
  · rintro i d r m hd ⟨rfl, x, y, hI⟩
    obtain ⟨p, hpp, rfl⟩ := map_got hd
    have hc : Cand us (wor wd c b row) l p.1 := (hps p.1).mp ⟨p.2, List.mem_of_getElem? hpp⟩
    have ho := getI (xs := ah) (i := p.1) (by have := hc.1; omega)
    rcases hI with ⟨rfl, hn⟩ | ⟨s, f, rfl, hf, ha⟩
    · walk_at "go"
      cases q : ah[p.1]'(by have := hc.1; omega) with
      | none =>
        rw [q] at ho
        refine wr_ixL isl_d (d := .non) (at_m (f := encO) ho) ?_
        walk_at "go"
        refine ⟨rfl, _, _, .inl ⟨rfl, fun k p' hk hk2 => ?_⟩⟩
        rcases Nat.lt_or_ge k i with z | z
        · exact hn k p' z hk2
        · have : k = i := by omega
          subst this
          rw [hpp] at hk2
          cases hk2
          rintro ⟨a, e⟩
          rw [ho] at e; cases e
      | some a =>
        rw [q] at ho
        refine wr_ixL isl_d (d := .int a) (at_m (f := encO) ho) ?_
        walk_at "go"
        refine wr_ixL isl_d (d := .int a) (at_m (f := encO) ho) ?_
        walk_at "go"
        exact ⟨rfl, _, _, .inr ⟨_, _, rfl, hc, a, ho⟩⟩
    · walk_at "go"
      cases q : ah[p.1]'(by have := hc.1; omega) with
      | none =>
        rw [q] at ho
        refine wr_ixL isl_d (d := .non) (at_m (f := encO) ho) ?_
        walk_at "go"
        exact ⟨rfl, _, _, .inr ⟨_, _, rfl, hf, ha⟩⟩
      | some a =>
        rw [q] at ho
        refine wr_ixL isl_d (d := .int a) (at_m (f := encO) ho) ?_
        walk_at "go"
        refine wr_ixL isl_d (d := .int a) (at_m (f := encO) ho) ?_
        walk_at "go"
        refine ifd (fun z => ?_) (fun z => ?_)
        · walk_at "go"
          refine wr_ixL isl_d (d := .int a) (at_m (f := encO) ho) ?_
          walk_at "go"
          exact ⟨rfl, _, _, .inr ⟨_, _, rfl, hc, a, ho⟩⟩
        · walk_at "go"
          exact ⟨rfl, _, _, .inr ⟨_, _, rfl, hf, ha⟩⟩
  · rintro r m ⟨rfl, x, y, ⟨rfl, hn⟩ | ⟨s, f, rfl, hf, ha⟩⟩
    · walk_at "go"
      refine ⟨rfl, _, rfl, .inl ⟨rfl, fun f hc => ?_⟩⟩
      obtain ⟨b', hb⟩ := (hps f).mpr hc
      obtain ⟨k, hk⟩ := List.getElem?_of_mem hb
      exact hn k _ (by rw [List.length_map]; exact (List.getElem?_eq_some_iff.mp hk).1) hk
    · walk_at "go"
      exact ⟨rfl, _, rfl, .inr ⟨_, _, rfl, hf, ha⟩⟩

/-- what the sums say: where a text may be cut -/
def NNl (lines : List (List (Option Int))) (r f : Nat) : Prop := ∃ l, lines[r]? = some l ∧ NN l f
structure SumsOk (us : List Un) (wd c b : Int) (lines : List (List (Option Int))) (k : Nat) : Prop where
  len : lines.length = k + 1
  wid : ∀ (r : Nat) l, lines[r]? = some l → l.length = us.length + 1
  z : ∀ f, NNl lines 0 f ↔ f = 0
  s : ∀ r f, r < k → (NNl lines (r + 1) f ↔ 1 ≤ f ∧ f ≤ us.length ∧ ∃ g, Cand us (wor wd c b (r : Int)) f g ∧ NNl lines r g)
theorem SumsOk.reach {us : List Un} {wd c b : Int} {lines : List (List (Option Int))} {k : Nat} (S : SumsOk us wd c b lines k) : ∀ r, r ≤ k → r ≤ us.length → NNl lines r r
  | 0, _, _ => (S.z 0).mpr rfl
  | r + 1, h, h2 => (S.s r (r + 1) (by omega)).mpr ⟨by omega, h2, r, ⟨by omega, fun f' a b => .inr (by omega)⟩, S.reach r (by omega) (by omega)⟩
theorem nn_app {l : List (Option Int)} {o : Option Int} {f : Nat} : NN (l ++ [o]) f ↔ NN l f ∨ (f = l.length ∧ ∃ a, o = some a) := by
  unfold NN
  constructor
  · rintro ⟨a, h⟩
    by_cases hf : f < l.length
    · rw [List.getElem?_append_left hf] at h; exact .inl ⟨a, h⟩
    · rw [List.getElem?_append_right (by omega)] at h
      have hz : f - l.length < 1 := (List.getElem?_eq_some_iff.mp h).1
      have e : f - l.length = 0 := by omega
      rw [e] at h
      exact .inr ⟨by omega, a, by simpa using h⟩
  · rintro (⟨a, h⟩ | ⟨rfl, a, rfl⟩)
    · exact ⟨a, by rw [List.getElem?_append_left (List.getElem?_eq_some_iff.mp h).1]; exact h⟩
    · exact ⟨a, by rw [List.getElem?_append_right (Nat.le_refl _), Nat.sub_self]; rfl⟩
theorem nn_lt {l : List (Option Int)} {f : Nat} (h : NN l f) : f < l.length := by
  obtain ⟨a, h⟩ := h
  exact (List.getElem?_eq_some_iff.mp h).1
structure ASg where
  us : List Un
  w : Int
  c : Int
  b : Int
def S_all_sums : PSpec ASg := ⟨fun x => [encU x.us, .int x.w, pr (x.c, x.b)], fun x => GoodU x.us ∧ WB x.w x.b,
  fun x d => ∃ lines : List (List (Option Int)), d = .lst (lines.map encOs) ∧ SumsOk x.us x.w x.c x.b lines x.us.length⟩
theorem ok_all_sums (T : Top K mg) : Has P w K mg base 4 "all_sums" ["units", "width", "narrow"] (spG K S_all_sums.S) := by
  have h_least_sum := ok_least_sum (P := P) (w := w) (K := K) (base := base) T
  refine has_ok T.d_all_sums sc_all_sums (fun _ => rfl) (fun _ _ _ _ _ _ us hl => match us, hl with | [_, _, _], _ => rfl) (fun f cdv A outer s H E hr => ⟨_, (pss_cons (ps_set (i := 3) sc_all_sums.nd rfl (.inl rfl) (pe_callB (call_lenK (K := K) rfl) (by rfl) T.b_len bt_len (pa_cons (pv 0) pa_nil)))
      (pss_cons (ps_set (i := 4) sc_all_sums.nd rfl (.inl rfl) (pe_lst (pa_cons (pe_op op_cat (pe_lst (pa_cons pe_int pa_nil)) (pe_op op_rep (pe_lst (pa_cons pe_non pa_nil)) (pv 3))) pa_nil)))
      (pss_cons (ps_for PassesOwn.never rfl (pi_range1 (by rfl) T.b_range (pa_cons (pv 3) pa_nil)) (pg_name (i := 5) sc_all_sums.nd rfl (.inl rfl)) (pss_cons (ps_set (i := 6) sc_all_sums.nd rfl (.inl rfl) (pe_lst (pa_cons pe_non pa_nil)))
      (pss_cons (ps_for PassesOwn.never rfl (pi_range2 (by rfl) T.b_range (pa_cons pe_int (pa_cons (pe_op op_add (pv 3) pe_int) pa_nil))) (pg_name (i := 7) sc_all_sums.nd rfl (.inl rfl)) (pss_one (ps_expr (pe_bmK (K := K) rfl PySem.F.plainAttrs_list PySem.F.slot_list_append PySem.F.type_list_append mt_append (pv 6) (pa_cons (pe_ix (ix_tupK (K := K) rfl) (pe_has h_least_sum hr (by omega) (by rfl) (pa_cons (pv 0) (pa_cons (pe_ix (ix_listK (K := K) rfl) (pv 4) (pv 5) (fun _ _ => rfl)) (pa_cons (pv 7) (pa_cons (pv 1) (pa_cons (pv 2) (pa_cons (pv 5) pa_nil))))))) pe_int (fun _ _ => rfl)) pa_nil)))))
      (pss_one (ps_expr (pe_bmK (K := K) rfl PySem.F.plainAttrs_list PySem.F.slot_list_append PySem.F.type_list_append mt_append (pv 4) (pa_cons (pv 6) pa_nil)))))))
      (pss_one (ps_ret (pv 4)))))), ?_⟩)
  rintro ⟨us, wd, c, b⟩ hp
  simp only [cxOf, Cx.nox, Cx.wish, Cx.blk, S_all_sums, N_all_sums, startR, PSpec.S_args, PSpec.S_mu, PSpec.S_pre, PSpec.S_post, List.map_cons, List.map_nil, List.length_cons, List.length_nil, Nat.reduceAdd, Nat.reduceSub, List.replicate_succ, List.replicate_zero, List.cons_append, List.nil_append, List.append_nil] at hp ⊢
  obtain ⟨hg, hb⟩ := hp
  have hl := hg.1
  walk_at "go"
  refine we_lstM1 ?_
  walk_at "go"
  refine we_lst1 ?_
  walk_at "go"
  refine we_lst1 ?_
  walk_at "go"
  refine wr_rep (n := (us.map Un.enc).length) isl_d (by rw [List.length_map]; omega) ?_
  refine wr_cat isl_d isl_d (by simp; omega) ?_
  walk_at "go"
  refine ws_for (fun i r m => ∃ (lines : List (List (Option Int))) (x y z : Option SV), r = [some (.dat (encU us)), some (.dat (.int wd)), some (.dat (pr (c, b))), some (.dat (.int ((us.map Un.enc).length : Int))), some (.ob 0), x, y, z] ∧
    m = [.lst (lines.map encOs)] ∧ SumsOk us wd c b lines i) (wi_r1 ?_)
  walk_at "go"
  refine ⟨_, rfl, by rw [List.length_map]; omega, ⟨[some 0 :: List.replicate us.length none], none, none, none, rfl, ?_, ⟨rfl, fun r l h => ?_, fun f => ?_, fun r f h => by omega⟩⟩, ?_, ?_⟩
  · simp [encOs, encO, List.map_replicate]
  · cases r with
    | zero => cases h; simp
    | succ r => simp at h
  · constructor
    · rintro ⟨l, h, a, e⟩
      cases h
      cases f with
      | zero => rfl
      | succ f =>
        rw [List.getElem?_cons_succ, List.getElem?_replicate] at e
        split at e <;> cases e
    · rintro rfl
      exact ⟨_, rfl, 0, rfl⟩
  · rintro i d r m hd ⟨lines, x, y, z, rfl, rfl, S⟩
    obtain ⟨hi, rfl⟩ := rngD_get hd
    have hi2 : i < us.length := by simpa using hi
    have hpl : i < lines.length := by rw [S.len]; omega
    have hpv := getI hpl
    have hpw := S.wid i _ hpv
    rw [show (0 : Int) + (i : Nat) = (i : Int) by omega]
    walk_at "go"
    refine we_lstM1 ?_
    walk_at "go"
    refine ws_for (fun j r m => ∃ (line : List (Option Int)) (x : Option SV), r = [some (.dat (encU us)), some (.dat (.int wd)), some (.dat (pr (c, b))), some (.dat (.int ((us.map Un.enc).length : Int))), some (.ob 0), some (.dat (.int (i : Int))), some (.ob 1), x] ∧
      m = [.lst (lines.map encOs), .lst (line.map encO)] ∧ line.length = j + 1 ∧ ∀ f, NN line f ↔ 1 ≤ f ∧ f ≤ j ∧ ∃ g, Cand us (wor wd c b (i : Int)) f g ∧ NN lines[i] g) (wi_r2 ?_)
    walk_at "go"
    refine ⟨_, _, rfl, by rw [List.length_map]; omega, ⟨[none], z, rfl, rfl, rfl, fun f => ⟨?_, fun h => by omega⟩⟩, ?_, ?_⟩
    · rintro ⟨a, e⟩
      cases f with
      | zero => cases e
      | succ f => simp at e
    · rintro j d r m hd ⟨line, x, rfl, rfl, hlen, hline⟩
      obtain ⟨hj, rfl⟩ := rngD_get hd
      have hj2 : j < us.length := by rw [List.length_map] at hj; omega
      rw [show (1 : Int) + (j : Nat) = ((j + 1 : Nat) : Int) by omega]
      walk_at "go"
      refine wr_ixL (isl_m rfl) (at_m hpv) ?_
      walk_at "go"
      refine ⟨⟨us, lines[i], j + 1, wd, c, b, (i : Int)⟩, rfl, ⟨hg, by show 1 ≤ j + 1; omega, by show j + 1 ≤ us.length; omega, by show j + 1 ≤ lines[i].length; omega, hb⟩, fun d hd => ?_⟩
      simp only [S_least_sum] at hd
      rcases hd with ⟨rfl, hn⟩ | ⟨s, f, rfl, hc, ha⟩
      · walk_at "go"
        refine ap2 rfl (by rw [List.length_map]; omega) ?_
        walk_at "go"
        refine ⟨line ++ [none], _, rfl, by rw [List.map_append]; rfl, by rw [List.length_append, hlen]; rfl, fun f => ?_⟩
        rw [nn_app, hline]
        constructor
        · rintro (⟨h1, h2, h3⟩ | ⟨_, a, e⟩)
          · exact ⟨h1, by omega, h3⟩
          · cases e
        · rintro ⟨h1, h2, g, h3, h4⟩
          by_cases e : f = j + 1
          · subst e; exact absurd h4 (hn g h3)
          · exact .inl ⟨h1, by omega, g, h3, h4⟩
      · walk_at "go"
        refine ap2 rfl (by rw [List.length_map]; omega) ?_
        walk_at "go"
        refine ⟨line ++ [some s], _, rfl, by rw [List.map_append]; rfl, by rw [List.length_append, hlen]; rfl, fun f' => ?_⟩
        rw [nn_app, hline]
        constructor
        · rintro (⟨h1, h2, h3⟩ | ⟨e, a, _⟩)
          · exact ⟨h1, by omega, h3⟩
          · rw [hlen] at e; subst e
            exact ⟨by omega, by omega, f, hc, ha⟩
        · rintro ⟨h1, h2, g, h3, h4⟩
          by_cases e : f' = j + 1
          · exact .inr ⟨by omega, s, rfl⟩
          · exact .inl ⟨h1, by omega, g, h3, h4⟩
    · rintro r m ⟨line, x, rfl, rfl, hlen, hline⟩
      rw [rngD_len, List.length_map] at hlen hline
      have e : ((us.length : Int) + 1 - 1).toNat = us.length := by omega
      rw [e] at hlen hline
      refine ws_freeze (mu1 := [.lst (lines.map encOs)]) rfl (Nat.zero_le _) ?_
      simp only [thaw, List.map_cons, List.map_nil, List.length_cons, List.length_nil, Nat.zero_add, if_neg (show ¬ (0 : Nat) = 1 by omega), if_true]
      walk_at "go"
      refine ap2 rfl (by rw [List.length_map, S.len]; omega) ?_
      walk_at "go"
      have gl : ∀ r, r < lines.length → (lines ++ [line])[r]? = lines[r]? := fun r h => List.getElem?_append_left h
      have g1 : (lines ++ [line])[i + 1]? = some line := by rw [List.getElem?_append_right (by rw [S.len]; omega), S.len, Nat.sub_self]; rfl
      refine ⟨lines ++ [line], _, _, _, rfl, by rw [List.map_append]; rfl, ⟨by rw [List.length_append, S.len]; rfl, fun r l h => ?_, fun f => ?_, fun r f h => ?_⟩⟩
      · by_cases hr : r < lines.length
        · rw [gl r hr] at h; exact S.wid r l h
        · have : r < (lines ++ [line]).length := (List.getElem?_eq_some_iff.mp h).1
          rw [List.length_append, List.length_singleton, S.len] at this
          rw [S.len] at hr
          have : r = i + 1 := by omega
          subst this
          rw [g1] at h; cases h; exact hlen
      · rw [← S.z f]
        unfold NNl
        rw [gl 0 (by rw [S.len]; omega)]
      · unfold NNl
        rcases Nat.lt_or_ge r i with z | z
        · rw [gl (r + 1) (by rw [S.len]; omega), gl r (by rw [S.len]; omega)]
          exact S.s r f z
        · have : r = i := by omega
          subst this
          rw [g1, gl r (by rw [S.len]; omega)]
          constructor
          · rintro ⟨l, h1, h2⟩
            cases h1
            obtain ⟨a1, a2, g, a3, a4⟩ := (hline f).mp h2
            exact ⟨a1, a2, g, a3, _, hpv, a4⟩
          · rintro ⟨a1, a2, g, a3, l, a4, a5⟩
            rw [hpv] at a4; cases a4
            exact ⟨line, rfl, (hline f).mpr ⟨a1, a2, g, a3, a5⟩⟩
  · rintro r m ⟨lines, x, y, z, rfl, rfl, S⟩
    rw [rngD_len, List.length_map, Int.toNat_natCast] at S
    walk_at "go"
    exact ret_m (Nat.zero_le _) rfl ⟨rfl, _, rfl, lines, rfl, S⟩
end
end LP
end

section
set_option maxHeartbeats 4000000
/-! G2c: breaks, the rows chosen. -/
namespace LP
open PySem PySem.Spec PyProof.Rows L2
def LastN (l : List (Option Int)) : Prop := ∃ a : Int, l.getLast? = some (some a)
section
variable {P : Program} {w : World} {K : PySem.W.Frag} {mg : Str → Option Value} {base : Heap}
def S_fewest_rows : PSpec (List (List (Option Int))) := ⟨fun x => [.lst (x.map encOs)], fun x => x.length ≤ 10000 ∧ (∀ l ∈ x, l ≠ []) ∧ ∃ (r : Nat) (l : List (Option Int)), x[r]? = some l ∧ LastN l,
  fun x d => ∃ r : Nat, d = .int (r : Int) ∧ ∃ l, x[r]? = some l ∧ LastN l⟩
theorem ok_fewest_rows (T : Top K mg) : Has P w K mg base 1 "fewest_rows" ["sums"] (spG K S_fewest_rows.S) := by
  refine has_ok T.d_fewest_rows sc_fewest_rows (fun _ => rfl) (fun _ _ _ _ _ _ us hl => match us, hl with | [_], _ => rfl) (fun f cdv A outer s H E hr => ⟨_, (pss_cons (ps_set (i := 1) sc_fewest_rows.nd rfl (.inl rfl) pe_non)
      (pss_cons (ps_for PassesOwn.never rfl (pi_range1 (by rfl) T.b_range (pa_cons (pe_callB (call_lenK (K := K) rfl) (by rfl) T.b_len bt_len (pa_cons (pv 0) pa_nil)) pa_nil)) (pg_name (i := 2) sc_fewest_rows.nd rfl (.inl rfl)) (pss_cons (ps_set (i := 3) sc_fewest_rows.nd rfl (.inl rfl) (pe_ix (ix_listK (K := K) rfl) (pe_ix (ix_listK (K := K) rfl) (pv 0) (pv 2) (fun _ _ => rfl)) (pe_un un_neg pe_int) (fun _ _ => rfl)))
      (pss_one (ps_if (PW.pt (pw_and (pt_cmpR op_notN (pv 3) pe_non (nomark _)) (pw_and1 (PW.pt (pw_or (pt_cmpR op_isN (pv 1) pe_non (nomark _)) (pw_or1 (pt_cmpR op_lt (pv 3) (pe_ix (ix_listK (K := K) rfl) (pe_ix (ix_listK (K := K) rfl) (pv 0) (pv 1) (fun _ _ => rfl)) (pe_un un_neg pe_int) (fun _ _ => rfl)) (nomark _)))))))) (pss_one (ps_set (i := 1) sc_fewest_rows.nd rfl (.inl rfl) (pv 2))) pss_nil))))
      (pss_one (ps_ret (pv 1))))), ?_⟩)
  rintro lines hp
  simp only [cxOf, Cx.nox, Cx.wish, Cx.blk, S_fewest_rows, N_fewest_rows, startR, PSpec.S_args, PSpec.S_mu, PSpec.S_pre, PSpec.S_post, List.map_cons, List.map_nil, List.length_cons, List.length_nil, Nat.reduceAdd, Nat.reduceSub, List.replicate_succ, List.replicate_zero, List.cons_append, List.nil_append, List.append_nil] at hp ⊢
  obtain ⟨hlen, hne, r0, l0, hr0, hl0⟩ := hp
  walk_at "go"
  refine ws_for (fun i r m => m = [] ∧ ∃ (x y : Option SV), (r = [some (.dat (.lst (lines.map encOs))), some (.dat .non), x, y] ∧ ∀ (k : Nat) (l : List (Option Int)), k < i → lines[k]? = some l → ¬ LastN l) ∨
     ∃ r0 : Nat, r = [some (.dat (.lst (lines.map encOs))), some (.dat (.int (r0 : Int))), x, y] ∧ ∃ l, lines[r0]? = some l ∧ LastN l) (wi_r1 ?_)
  walk_at "go"
  refine ⟨_, rfl, by rw [List.length_map]; omega, ⟨rfl, none, none, .inl ⟨rfl, fun k l h => by omega⟩⟩, ?_, ?_⟩
  · rintro i d r m hd ⟨rfl, x, y, hI⟩
    obtain ⟨hi, rfl⟩ := rngD_get hd
    have hi2 : i < lines.length := by simpa using hi
    have hx := getI hi2
    have hne2 := hne _ (List.mem_of_getElem? hx)
    rw [show (0 : Int) + (i : Nat) = (i : Int) by omega]
    obtain ⟨o, ho⟩ : ∃ o, lines[i].getLast? = some o := by
      cases q : lines[i].getLast? with
      | none => exact absurd (List.getLast?_eq_none_iff.mp q) hne2
      | some o => exact ⟨o, rfl⟩
    rcases hI with ⟨rfl, hn⟩ | ⟨r0, rfl, l, hr, a0, ha0⟩
    · walk_at "go"
      refine wr_ixL isl_d (at_m hx) ?_
      walk_at "go"
      cases o with
      | none =>
        refine wr_ixL isl_d (d := .non) (at_last (f := encO) ho) ?_
        walk_at "go"
        refine ⟨rfl, _, _, .inl ⟨rfl, fun k l hk hk2 => ?_⟩⟩
        rcases Nat.lt_or_ge k i with z | z
        · exact hn k l z hk2
        · have : k = i := by omega
          subst this
          rw [hx] at hk2; cases hk2
          rintro ⟨a, e⟩
          rw [ho] at e; cases e
      | some a =>
        refine wr_ixL isl_d (d := .int a) (at_last (f := encO) ho) ?_
        walk_at "go"
        exact ⟨rfl, _, _, .inr ⟨i, rfl, _, hx, a, ho⟩⟩
    · walk_at "go"
      refine wr_ixL isl_d (at_m hx) ?_
      walk_at "go"
      cases o with
      | none =>
        refine wr_ixL isl_d (d := .non) (at_last (f := encO) ho) ?_
        walk_at "go"
        exact ⟨rfl, _, _, .inr ⟨r0, rfl, l, hr, a0, ha0⟩⟩
      | some a =>
        refine wr_ixL isl_d (d := .int a) (at_last (f := encO) ho) ?_
        walk_at "go"
        refine wr_ixL isl_d (at_m hr) ?_
        walk_at "go"
        refine wr_ixL isl_d (d := .int a0) (at_last (f := encO) ha0) ?_
        walk_at "go"
        refine ifd (fun z => ?_) (fun z => ?_)
        · walk_at "go"
          exact ⟨rfl, _, _, .inr ⟨i, rfl, _, hx, a, ho⟩⟩
        · walk_at "go"
          exact ⟨rfl, _, _, .inr ⟨r0, rfl, l, hr, a0, ha0⟩⟩
  · rintro r m ⟨rfl, x, y, ⟨rfl, hn⟩ | ⟨r1, rfl, l, hr, ha⟩⟩
    · exact absurd hl0 (hn r0 l0 (by rw [rngD_len, List.length_map]; have := (List.getElem?_eq_some_iff.mp hr0).1; omega) hr0)
    · walk_at "go"
      exact ⟨rfl, _, rfl, r1, rfl, l, hr, ha⟩

theorem last_nn {l : List (Option Int)} {n : Nat} (h : l.length = n + 1) : LastN l ↔ NN l n := by
  unfold LastN NN
  rw [List.getLast?_eq_getElem?, h, Nat.add_sub_cancel]
@[reducible] def encR (rows : List (Nat × Nat)) : D := .lst (rows.map fun p => .tup [.int (p.1 : Int), .int (p.2 : Int)])
/-- rows that fit, each at its place -/
def RowsOk (us : List Un) (wd c b : Int) (rows : List (Nat × Nat)) : Prop := rows.length ≤ us.length ∧ ∀ (i : Nat) p, rows[i]? = some p → p.1 < p.2 ∧ p.2 ≤ us.length ∧ Fits us p.1 p.2 (wor wd c b (i : Int))
structure CRg where
  us : List Un
  w : Int
  c : Int
  b : Int
  lines : List (List (Option Int))
def S_chosen_rows : PSpec CRg := ⟨fun x => [encU x.us, .int x.w, pr (x.c, x.b), .lst (x.lines.map encOs)], fun x => GoodU x.us ∧ WB x.w x.b ∧ SumsOk x.us x.w x.c x.b x.lines x.us.length,
  fun x d => ∃ rows, d = encR rows ∧ RowsOk x.us x.w x.c x.b rows⟩
theorem ok_chosen_rows (T : Top K mg) : Has P w K mg base 4 "chosen_rows" ["units", "width", "narrow", "sums"] (spG K S_chosen_rows.S) := by
  have h_fewest_rows := ok_fewest_rows (P := P) (w := w) (K := K) (base := base) T
  have h_least_sum := ok_least_sum (P := P) (w := w) (K := K) (base := base) T
  refine has_ok T.d_chosen_rows sc_chosen_rows (fun _ => rfl) (fun _ _ _ _ _ _ us hl => match us, hl with | [_, _, _, _], _ => rfl) (fun f cdv A outer s H E hr => ⟨_, (pss_cons (ps_set (i := 4) sc_chosen_rows.nd rfl (.inl rfl) (pe_callB (call_lenK (K := K) rfl) (by rfl) T.b_len bt_len (pa_cons (pv 0) pa_nil)))
      (pss_cons (ps_set (i := 5) sc_chosen_rows.nd rfl (.inl rfl) (pe_lst pa_nil))
      (pss_cons (ps_for PassesOwn.never rfl (pi_range3 (by rfl) T.b_range (pa_cons (pe_op op_sub (pe_has h_fewest_rows hr (by omega) (by rfl) (pa_cons (pv 3) pa_nil)) pe_int) (pa_cons (pe_un un_neg pe_int) (pa_cons (pe_un un_neg pe_int) pa_nil)))) (pg_name (i := 6) sc_chosen_rows.nd rfl (.inl rfl)) (pss_cons (ps_set (i := 7) sc_chosen_rows.nd rfl (.inl rfl) (pe_ix (ix_tupK (K := K) rfl) (pe_has h_least_sum hr (by omega) (by rfl) (pa_cons (pv 0) (pa_cons (pe_ix (ix_listK (K := K) rfl) (pv 3) (pv 6) (fun _ _ => rfl)) (pa_cons (pv 4) (pa_cons (pv 1) (pa_cons (pv 2) (pa_cons (pv 6) pa_nil))))))) pe_int (fun _ _ => rfl)))
      (pss_cons (ps_expr (pe_bmK (K := K) rfl PySem.F.plainAttrs_list PySem.F.slot_list_append PySem.F.type_list_append mt_append (pv 5) (pa_cons (pe_tup (pa_cons (pv 7) (pa_cons (pv 4) pa_nil))) pa_nil)))
      (pss_one (ps_set (i := 4) sc_chosen_rows.nd rfl (.inl rfl) (pv 7))))))
      (pss_one (ps_ret (pe_listRev (K := K) rfl rfl (by rfl) T.b_list (by rfl) T.b_reversed (pv 5))))))), ?_⟩)
  rintro ⟨us, wd, c, b, lines⟩ hp
  simp only [cxOf, Cx.nox, Cx.wish, Cx.blk, S_chosen_rows, N_chosen_rows, startR, PSpec.S_args, PSpec.S_mu, PSpec.S_pre, PSpec.S_post, List.map_cons, List.map_nil, List.length_cons, List.length_nil, Nat.reduceAdd, Nat.reduceSub, List.replicate_succ, List.replicate_zero, List.cons_append, List.nil_append, List.append_nil] at hp ⊢
  obtain ⟨hg, hb, S⟩ := hp
  have hl := hg.1
  walk_at "go"
  refine we_lstM0 ?_
  walk_at "go"
  refine ws_forE (wi_r3 ?_)
  walk_at "go"
  refine ⟨lines, rfl, ⟨by show lines.length ≤ 10000; rw [S.len]; omega, fun l hm e => ?_, us.length, ?_⟩, fun d hd => ?_⟩
  · obtain ⟨r, hr⟩ := List.getElem?_of_mem hm
    have := S.wid r l hr
    rw [e] at this; simp at this
  · obtain ⟨l, h1, h2⟩ := S.reach us.length (Nat.le_refl _) (Nat.le_refl _)
    exact ⟨l, h1, (last_nn (S.wid _ _ h1)).mpr h2⟩
  simp only [S_fewest_rows] at hd
  obtain ⟨R, rfl, lR, hR, hRl⟩ := hd
  have hRn : R < lines.length := (List.getElem?_eq_some_iff.mp hR).1
  rw [S.len] at hRn
  have hRN : NNl lines R us.length := ⟨lR, hR, (last_nn (S.wid _ _ hR)).mp hRl⟩
  walk_at "go"
  refine ⟨_, _, rfl, by omega, fun i r m => ∃ (ps : List (Nat × Nat)) (l : Nat) (x y : Option SV), r = [some (.dat (encU us)), some (.dat (.int wd)), some (.dat (pr (c, b))), some (.dat (.lst (lines.map encOs))), some (.dat (.int (l : Int))), some (.ob 0), x, y] ∧
      m = [.lst (ps.map fun p => .tup [.int (p.1 : Int), .int (p.2 : Int)])] ∧ ps.length = i ∧ i ≤ R ∧ NNl lines (R - i) l ∧ l ≤ us.length ∧ ∀ (k : Nat) p, ps[k]? = some p → p.1 < p.2 ∧ p.2 ≤ us.length ∧ Fits us p.1 p.2 (wor wd c b ((R - 1 - k : Nat) : Int)),
    ⟨[], us.length, none, none, by rw [List.length_map], rfl, rfl, Nat.zero_le _, hRN, Nat.le_refl _, fun k p h => by simp at h⟩, ?_, ?_⟩
  · rintro i d r m hd ⟨ps, l, x, y, rfl, rfl, hpl, hiR, hN, hln, hps⟩
    obtain ⟨hi, rfl⟩ := dwnD_get hd
    have hi2 : i < R := by omega
    have hz : (R : Int) - 1 - (i : Nat) = ((R - 1 - i : Nat) : Int) := by omega
    rw [hz]
    obtain ⟨j, hj⟩ : ∃ j, R - 1 - i = j := ⟨_, rfl⟩
    have hj1 : R - i = j + 1 := by omega
    rw [hj1] at hN
    rw [hj]
    obtain ⟨a1, a2, g, a3, lp, a4, a5⟩ := (S.s j l (by omega)).mp hN
    have hlp := S.wid _ _ a4
    walk_at "go"
    refine wr_ixL isl_d (at_m a4) ?_
    walk_at "go"
    refine ⟨⟨us, lp, l, wd, c, b, (j : Int)⟩, rfl, ⟨hg, a1, a2, by show l ≤ lp.length; omega, hb⟩, fun d hd => ?_⟩
    simp only [S_least_sum] at hd
    rcases hd with ⟨rfl, hn⟩ | ⟨s, f, rfl, hc, ha⟩
    · exact absurd a5 (hn g a3)
    · walk_at "go"
      refine ap2 rfl (by rw [List.length_map]; omega) ?_
      walk_at "go"
      refine ⟨ps ++ [(f, l)], f, _, _, rfl, by rw [List.map_append]; rfl, by rw [List.length_append, hpl]; rfl, by omega, ⟨lp, by rw [show R - (i + 1) = j by omega]; exact a4, ha⟩, by have := hc.1; omega, fun k p hk => ?_⟩
      by_cases hkl : k < ps.length
      · rw [List.getElem?_append_left hkl] at hk; exact hps k p hk
      · have := (List.getElem?_eq_some_iff.mp hk).1
        rw [List.length_append, List.length_singleton] at this
        have e : k = ps.length := by omega
        subst e
        rw [List.getElem?_append_right (Nat.le_refl _), Nat.sub_self] at hk
        cases hk
        refine ⟨hc.1, hln, ?_⟩
        rw [show R - 1 - ps.length = j by omega]
        exact hc.2 f (Nat.le_refl _) hc.1
  · rintro r m ⟨ps, l, x, y, rfl, rfl, hpl, hiR, hN, hln, hps⟩
    rw [dwnD_len] at hpl
    walk_at "go"
    refine we_listRev ?_
    walk_at "go"
    refine ⟨_, isl_m rfl, rfl, _, rfl, ps.reverse, by unfold encR; rw [List.map_reverse], by rw [List.length_reverse]; omega, fun i p hi => ?_⟩
    have hil := (List.getElem?_eq_some_iff.mp hi).1
    rw [List.length_reverse] at hil
    rw [List.getElem?_reverse hil] at hi
    have := hps _ p hi
    rw [show R - 1 - (ps.length - 1 - i) = i by omega] at this
    exact this

def S_broken : PSpec ASg := ⟨fun x => [encU x.us, .int x.w, pr (x.c, x.b)], fun x => GoodU x.us ∧ WB x.w x.b,
  fun x d => ∃ rows ds, d = .tup [encR rows, ds] ∧ RowsOk x.us x.w x.c x.b rows⟩
theorem ok_broken (T : Top K mg) : Has P w K mg base 5 "broken" ["units", "width", "narrow"] (spG K S_broken.S) := by
  have h_all_sums := ok_all_sums (P := P) (w := w) (K := K) (base := base) T
  have h_chosen_rows := ok_chosen_rows (P := P) (w := w) (K := K) (base := base) T
  refine has_okD T.d_broken sc_broken (fun _ => rfl) (fun T kV doc pm an cdv ct us its hl hi => match us, hl, its, hi with | [_, _, _], _, [_], _ => ⟨_, rfl, rfl⟩) (fun f cdv A outer s H E hr => ⟨_, (pss_cons (ps_if (pt_cmpR op_isN (pv 2) pe_non (nomark _)) (pss_one (ps_set (i := 2) sc_broken.nd rfl (.inl rfl) (pe_tup (pa_cons pe_int (pa_cons pe_int pa_nil))))) pss_nil)
      (pss_cons (ps_set (i := 3) sc_broken.nd rfl (.inl rfl) (pe_has h_all_sums hr (by omega) (by rfl) (pa_cons (pv 0) (pa_cons (pv 1) (pa_cons (pv 2) pa_nil)))))
      (pss_one (ps_ret (pe_tup (pa_cons (pe_has h_chosen_rows hr (by omega) (by rfl) (pa_cons (pv 0) (pa_cons (pv 1) (pa_cons (pv 2) (pa_cons (pv 3) pa_nil))))) (pa_cons (pv 3) pa_nil))))))), ?_⟩)
  rintro ⟨us, wd, c, b⟩ hp
  simp only [cxOf, Cx.nox, Cx.wish, Cx.blk, S_broken, N_broken, startR, PSpec.S_args, PSpec.S_mu, PSpec.S_pre, PSpec.S_post, List.map_cons, List.map_nil, List.length_cons, List.length_nil, Nat.reduceAdd, Nat.reduceSub, List.replicate_succ, List.replicate_zero, List.cons_append, List.nil_append, List.append_nil] at hp ⊢
  obtain ⟨hg, hb⟩ := hp
  walk_at "go"
  refine ⟨⟨us, wd, c, b⟩, rfl, ⟨hg, hb⟩, fun d hd => ?_⟩
  simp only [S_all_sums] at hd
  obtain ⟨lines, rfl, S⟩ := hd
  walk_at "go"
  refine ⟨⟨us, wd, c, b, lines⟩, rfl, ⟨hg, hb, S⟩, fun d hd => ?_⟩
  simp only [S_chosen_rows] at hd
  obtain ⟨rows, rfl, hr⟩ := hd
  walk_at "go"
  exact ⟨rfl, _, rfl, rows, _, rfl, hr⟩
end
end LP
end

section
set_option maxHeartbeats 4000000
/-! G3: grids, the places. -/
namespace LP
open PySem PySem.Spec PyProof.Rows L2
/-- where the cell stands: row, column, span, deep -/
structure Plc where
  r : Nat
  c : Nat
  s : Nat
  d : Nat
@[reducible] def Plc.enc (p : Plc) : D := .tup [.int (p.r : Int), .int (p.c : Int), .int (p.s : Int), .int (p.d : Int)]
@[reducible] def cellK (r c : Nat) : List Key := [.inl (r : Int), .inl (c : Int)]
/-- none of the cells is taken -/
def Free (tk : Nat → Nat → Bool) (r c s d : Nat) : Prop := ∀ i j, i < d → j < s → tk (r + i) (c + j) = false
def tkF (f : List Key → Bool) (r c : Nat) : Bool := f (cellK r c)
/-- the first free place -/
structure FP (tk : Nat → Nat → Bool) (cols s d r c : Nat) : Prop where
  fit : c + s ≤ cols
  free : Free tk r c s d
  row : ∀ r' c', r' < r → c' + s ≤ cols → ¬ Free tk r' c' s d
  col : ∀ c', c' < c → ¬ Free tk r c' s d
theorem FP.uniq {tk : Nat → Nat → Bool} {cols s d r c r' c' : Nat} (h : FP tk cols s d r c) (h' : FP tk cols s d r' c') : r = r' ∧ c = c' := by
  have e : r = r' := by
    rcases Nat.lt_trichotomy r r' with z | z | z
    · exact absurd h.free (h'.row r c z h.fit)
    · exact z
    · exact absurd h'.free (h.row r' c' z h'.fit)
  subst e
  refine ⟨rfl, ?_⟩
  rcases Nat.lt_trichotomy c c' with z | z | z
  · exact absurd h.free (h'.col c z)
  · exact z
  · exact absurd h'.free (h.col c' z)
def Plc.has (p : Plc) (r c : Nat) : Bool := decide (p.r ≤ r ∧ r < p.r + p.d ∧ p.c ≤ c ∧ c < p.c + p.s)
def tkOf (ps : List Plc) (r c : Nat) : Bool := ps.any fun p => p.has r c
/-- the places of the cells, one behind another -/
def Pl (cols : Nat) (cells : List (Nat × Nat)) (ps : List Plc) : Prop := ps.length = cells.length ∧ ∀ i w d, cells[i]? = some (w, d) → ∃ r c, ps[i]? = some ⟨r, c, min w cols, d⟩ ∧ FP (tkOf (ps.take i)) cols (min w cols) d r c
theorem Pl.uniq {cols : Nat} {cells : List (Nat × Nat)} {ps qs : List Plc} (h : Pl cols cells ps) (h' : Pl cols cells qs) : ps = qs := by
  have key : ∀ i, i ≤ cells.length → ps.take i = qs.take i := by
    intro i
    induction i with
    | zero => intro _; rfl
    | succ i ih =>
      intro hi
      have e := ih (by omega)
      have hc := getI (xs := cells) (i := i) (by omega)
      obtain ⟨r, c, h1, h2⟩ := h.2 i _ _ hc
      obtain ⟨r', c', h3, h4⟩ := h'.2 i _ _ hc
      rw [e] at h2
      obtain ⟨rfl, rfl⟩ := h2.uniq h4
      rw [List.take_add_one, List.take_add_one, e, h1, h3]
  have := key cells.length (Nat.le_refl _)
  rwa [← h.1, List.take_length, h.1, ← h'.1, List.take_length] at this
section
variable {P : Program} {w : World} {K : PySem.W.Frag} {mg : Str → Option Value} {base : Heap}
structure IFg where
  f : List Key → Bool
  n : Nat
  r : Nat
  c : Nat
  s : Nat
  d : Nat
def S_is_free : Spec IFg := ⟨fun x => [.ob 0, .dat (.int (x.r : Int)), .dat (.int (x.c : Int)), .dat (.int (x.s : Int)), .dat (.int (x.d : Int))], fun x => [.dT x.f x.n], fun x => x.s ≤ 1000 ∧ x.d ≤ 1000,
  fun x s mu => mu = [.dT x.f x.n] ∧ ∃ b, s = .dat (.bl b) ∧ (b = true ↔ Free (tkF x.f) x.r x.c x.s x.d)⟩
theorem ok_is_free (T : Top K mg) : Has P w K mg base 1 "is_free" ["taken", "row", "column", "span", "deep"] (spG K S_is_free) := by
  refine has_ok T.d_is_free sc_is_free (fun _ => rfl) (fun _ _ _ _ _ _ us hl => match us, hl with | [_, _, _, _, _], _ => rfl) (fun f cdv A outer s H E hr => ⟨_, (pss_cons (ps_for PassesOwn.never rfl (pi_range1 (by rfl) T.b_range (pa_cons (pv 4) pa_nil)) (pg_name (i := 5) sc_is_free.nd rfl (.inl rfl)) (pss_one (ps_for PassesOwn.never rfl (pi_range1 (by rfl) T.b_range (pa_cons (pv 3) pa_nil)) (pg_name (i := 6) sc_is_free.nd rfl (.inl rfl)) (pss_one (ps_if (pt_cmp (pc_din (hu_of hr) (pe_tup (pa_cons (pe_op op_add (pv 1) (pv 5)) (pa_cons (pe_op op_add (pv 2) (pv 6)) pa_nil))) (pv 0)) (by rfl)) (pss_one (ps_ret pe_bl)) pss_nil)))))
      (pss_one (ps_ret pe_bl))), ?_⟩)
  rintro ⟨f, n, r, c, s, d⟩ hp
  simp only [cxOf, Cx.nox, Cx.wish, Cx.blk, S_is_free, N_is_free, startR, PSpec.S_args, PSpec.S_mu, PSpec.S_pre, PSpec.S_post, List.map_cons, List.map_nil, List.length_cons, List.length_nil, Nat.reduceAdd, Nat.reduceSub, List.replicate_succ, List.replicate_zero, List.cons_append, List.nil_append, List.append_nil] at hp ⊢
  obtain ⟨h1, h2⟩ := hp
  walk_at "go"
  refine ws_for (fun i ρ m => m = [.dT f n] ∧ ∃ (x y : Option SV), ρ = [some (.ob 0), some (.dat (.int (r : Int))), some (.dat (.int (c : Int))), some (.dat (.int (s : Int))), some (.dat (.int (d : Int))), x, y] ∧
    ∀ i' j', i' < i → j' < s → tkF f (r + i') (c + j') = false) (wi_r1 ?_)
  walk_at "go"
  refine ⟨_, rfl, by omega, ⟨rfl, none, none, rfl, fun i' j' h => by omega⟩, ?_, ?_⟩
  · rintro i dd ρ m hd ⟨rfl, x, y, rfl, hf⟩
    obtain ⟨hi, rfl⟩ := rngD_get hd
    rw [show (0 : Int) + (i : Nat) = (i : Int) by omega]
    walk_at "go"
    refine ws_for (fun j ρ m => m = [.dT f n] ∧ ∃ (y : Option SV), ρ = [some (.ob 0), some (.dat (.int (r : Int))), some (.dat (.int (c : Int))), some (.dat (.int (s : Int))), some (.dat (.int (d : Int))), some (.dat (.int (i : Int))), y] ∧
      ∀ j', j' < j → tkF f (r + i) (c + j') = false) (wi_r1 ?_)
    walk_at "go"
    refine ⟨_, rfl, by omega, ⟨rfl, _, rfl, fun j' h => by omega⟩, ?_, ?_⟩
    · rintro j dd ρ m hd ⟨rfl, y, rfl, hf2⟩
      obtain ⟨hj, rfl⟩ := rngD_get hd
      rw [show (0 : Int) + (j : Nat) = (j : Int) by omega]
      walk_at "go"
      refine we_inT ?_
      walk_at "go"
      refine ⟨0, f, n, _, _, rfl, rfl, rfl, rfl, ?_⟩
      have e : f [.inl ((r : Int) + (i : Int)), .inl ((c : Int) + (j : Int))] = tkF f (r + i) (c + j) := by
        unfold tkF cellK
        rw [Int.natCast_add, Int.natCast_add]
      rw [e]
      walk_at "go"
      refine ifb (fun z => ?_) (fun z => ?_)
      · walk_at "go"
        refine ⟨rfl, _, rfl, fun h => (by cases h), fun h => ?_⟩
        rw [h i j (by omega) (by omega)] at z; cases z
      · walk_at "go"
        refine ⟨rfl, _, rfl, fun j' hj' => ?_⟩
        by_cases e : j' = j
        · subst e; exact z
        · exact hf2 j' (by omega)
    · rintro ρ m ⟨rfl, y, rfl, hf2⟩
      rw [rngD_len, Int.toNat_natCast] at hf2
      walk_at "go"
      refine ⟨rfl, _, _, rfl, fun i' j' hi' hj' => ?_⟩
      by_cases e : i' = i
      · subst e; exact hf2 j' hj'
      · exact hf i' j' (by omega) hj'
  · rintro ρ m ⟨rfl, x, y, rfl, hf⟩
    rw [rngD_len, Int.toNat_natCast] at hf
    walk_at "go"
    exact ⟨rfl, _, rfl, fun _ => fun i j a b => hf i j a b, fun _ => rfl⟩

structure FPg where
  f : List Key → Bool
  n : Nat
  cols : Nat
  s : Nat
  d : Nat
def S_first_place : Spec FPg := ⟨fun x => [.ob 0, .dat (.int (x.cols : Int)), .dat (.int (x.s : Int)), .dat (.int (x.d : Int))], fun x => [.dT x.f x.n],
  fun x => x.cols ≤ 1000 ∧ x.d ≤ 1000 ∧ x.s ≤ x.cols ∧ ∃ R : Nat, ∀ r c, R ≤ r → tkF x.f r c = false,
  fun x s mu => mu = [.dT x.f x.n] ∧ ∃ r c : Nat, s = .dat (.tup [.int (r : Int), .int (c : Int)]) ∧ FP (tkF x.f) x.cols x.s x.d r c⟩
theorem ok_first_place (T : Top K mg) : Has P w K mg base 2 "first_place" ["taken", "columns", "span", "deep"] (spG K S_first_place) := by
  have h_is_free := ok_is_free (P := P) (w := w) (K := K) (base := base) T
  refine has_ok T.d_first_place sc_first_place (fun _ => rfl) (fun _ _ _ _ _ _ us hl => match us, hl with | [_, _, _, _], _ => rfl) (fun f cdv A outer s H E hr => ⟨_, (pss_cons (ps_set (i := 4) sc_first_place.nd rfl (.inl rfl) pe_int)
      (pss_one (ps_while PassesOwn.never (pt_val pe_bl) (pss_cons (ps_for PassesOwn.never rfl (pi_range1 (by rfl) T.b_range (pa_cons (pe_op op_add (pe_op op_sub (pv 1) (pv 2)) pe_int) pa_nil)) (pg_name (i := 5) sc_first_place.nd rfl (.inl rfl)) (pss_one (ps_if (pt_val (pe_has h_is_free hr (by omega) (by rfl) (pa_cons (pv 0) (pa_cons (pv 4) (pa_cons (pv 5) (pa_cons (pv 2) (pa_cons (pv 3) pa_nil))))))) (pss_one (ps_ret (pe_tup (pa_cons (pv 4) (pa_cons (pv 5) pa_nil))))) pss_nil)))
      (pss_one (ps_aug (i := 4) sc_first_place.nd rfl (.inl rfl) pe_int ip_add)))))), ?_⟩)
  rintro ⟨f, n, cols, s, d⟩ hp
  simp only [cxOf, Cx.nox, Cx.wish, Cx.blk, S_first_place, N_first_place, startR, PSpec.S_args, PSpec.S_mu, PSpec.S_pre, PSpec.S_post, List.map_cons, List.map_nil, List.length_cons, List.length_nil, Nat.reduceAdd, Nat.reduceSub, List.replicate_succ, List.replicate_zero, List.cons_append, List.nil_append, List.append_nil] at hp ⊢
  obtain ⟨h1, h2, h3, R, hR⟩ := hp
  walk_at "go"
  refine ws_while (fun k ρ m => ∃ (row : Nat) (x : Option SV), k + row = R ∧ m = [.dT f n] ∧ ρ = [some (.ob 0), some (.dat (.int (cols : Int))), some (.dat (.int (s : Int))), some (.dat (.int (d : Int))), some (.dat (.int (row : Int))), x] ∧
    ∀ r' c', r' < row → c' + s ≤ cols → ¬ Free (tkF f) r' c' s d) R ⟨0, none, rfl, rfl, rfl, fun r' c' h => by omega⟩ ?_
  rintro k ρ m ⟨row, x, hk, rfl, rfl, hrow⟩
  walk_at "go"
  refine ws_for (fun j ρ m => m = [.dT f n] ∧ ∃ (x : Option SV), ρ = [some (.ob 0), some (.dat (.int (cols : Int))), some (.dat (.int (s : Int))), some (.dat (.int (d : Int))), some (.dat (.int (row : Int))), x] ∧
    ∀ c', c' < j → ¬ Free (tkF f) row c' s d) (wi_r1 ?_)
  walk_at "go"
  refine ⟨_, rfl, by omega, ⟨rfl, _, rfl, fun c' h => by omega⟩, ?_, ?_⟩
  · rintro j dd ρ m hd ⟨rfl, x, rfl, hcol⟩
    obtain ⟨hj, rfl⟩ := rngD_get hd
    rw [show (0 : Int) + (j : Nat) = (j : Int) by omega]
    walk_at "go"
    refine we_callM ?_
    walk_at "go"
    refine ⟨⟨f, n, row, j, s, d⟩, [0], rfl, by simp, rfl, fun i hi => ?_, ⟨by show s ≤ 1000; omega, by show d ≤ 1000; omega⟩, ?_⟩
    · simp [S_is_free] at hi; simp [hi]
    rintro t mc ⟨rfl, b, rfl, hb⟩
    refine ⟨b, rfl, ?_⟩
    refine ifb (fun z => ?_) (fun z => ?_)
    · walk_at "go"
      exact ⟨rfl, _, _, rfl, ⟨by omega, hb.mp z, hrow, hcol⟩⟩
    · walk_at "go"
      refine ⟨rfl, _, rfl, fun c' hc' => ?_⟩
      by_cases e : c' = j
      · subst e; intro h; rw [hb.mpr h] at z; cases z
      · exact hcol c' (by omega)
  · rintro ρ m ⟨rfl, x, rfl, hcol⟩
    rw [rngD_len] at hcol
    have hr : row < R := by
      rcases Nat.lt_or_ge row R with z | z
      · exact z
      · exact absurd (fun i j _ _ => hR _ _ (by omega)) (hcol 0 (by omega))
    walk_at "go"
    refine ⟨k - 1, by omega, row + 1, _, by omega, rfl, rfl, fun r' c' hr' hc' => ?_⟩
    by_cases e : r' = row
    · subst e; exact hcol c' (by omega)
    · exact hrow r' c' (by omega) hc'

theorem tk_app (ps : List Plc) (p : Plc) (r c : Nat) : tkOf (ps ++ [p]) r c = (tkOf ps r c || p.has r c) := by
  unfold tkOf; simp
theorem tk_far (ps : List Plc) : ∃ R : Nat, ∀ r c, R ≤ r → tkOf ps r c = false := by
  induction ps with
  | nil => exact ⟨0, fun _ _ _ => rfl⟩
  | cons p ps ih =>
    obtain ⟨R, h⟩ := ih
    refine ⟨R + (p.r + p.d), fun r c hr => ?_⟩
    show (p.has r c || tkOf ps r c) = false
    rw [h r c (by omega)]
    unfold Plc.has
    simp; omega
@[reducible] def encC (cells : List (Nat × Nat)) : D := .lst (cells.map fun p => .tup [.int (p.1 : Int), .int (p.2 : Int)])
def CellsOk (cols : Nat) (cells : List (Nat × Nat)) : Prop := 1 ≤ cols ∧ cols ≤ 10 ∧ cells.length ≤ 1000 ∧ ∀ p ∈ cells, p.1 ≤ 10 ∧ p.2 ≤ 10
def S_grid_places : PSpec (Nat × List (Nat × Nat)) := ⟨fun x => [.int (x.1 : Int), encC x.2], fun x => CellsOk x.1 x.2, fun x d => ∃ ps, d = .lst (ps.map Plc.enc) ∧ Pl x.1 x.2 ps⟩
theorem ok_grid_places (T : Top K mg) : Has P w K mg base 3 "grid_places" ["columns", "cells"] (spG K S_grid_places.S) := by
  have h_first_place := ok_first_place (P := P) (w := w) (K := K) (base := base) T
  refine has_ok T.d_grid_places sc_grid_places (fun _ => rfl) (fun _ _ _ _ _ _ us hl => match us, hl with | [_, _], _ => rfl) (fun f cdv A outer s H E hr => ⟨_, (pss_cons (ps_set (i := 2) sc_grid_places.nd rfl (.inl rfl) pe_dnewT)
      (pss_cons (ps_set (i := 3) sc_grid_places.nd rfl (.inl rfl) (pe_lst pa_nil))
      (pss_cons (ps_for PassesOwn.never rfl (pi_listK (K := K) rfl (pv 1)) (pg_tupK (K := K) rfl rfl (pgs_cons (pg_name (i := 4) sc_grid_places.nd rfl (.inl rfl)) (pgs_cons (pg_name (i := 5) sc_grid_places.nd rfl (.inl rfl)) pgs_nil))) (pss_cons (ps_set (i := 6) sc_grid_places.nd rfl (.inl rfl) (pe_callB (call_min2 rfl) (by rfl) T.b_min bt_min (pa_cons (pv 4) (pa_cons (pv 0) pa_nil))))
      (pss_cons (ps_asg (pe_has h_first_place hr (by omega) (by rfl) (pa_cons (pv 2) (pa_cons (pv 0) (pa_cons (pv 6) (pa_cons (pv 5) pa_nil))))) (pg_tupK (K := K) rfl rfl (pgs_cons (pg_name (i := 7) sc_grid_places.nd rfl (.inl rfl)) (pgs_cons (pg_name (i := 8) sc_grid_places.nd rfl (.inl rfl)) pgs_nil))))
      (pss_cons (ps_for PassesOwn.never rfl (pi_range1 (by rfl) T.b_range (pa_cons (pv 5) pa_nil)) (pg_name (i := 9) sc_grid_places.nd rfl (.inl rfl)) (pss_one (ps_for PassesOwn.never rfl (pi_range1 (by rfl) T.b_range (pa_cons (pv 6) pa_nil)) (pg_name (i := 10) sc_grid_places.nd rfl (.inl rfl)) (pss_one (ps_dput (hu_of hr) (pv 2) (pe_tup (pa_cons (pe_op op_add (pv 7) (pv 9)) (pa_cons (pe_op op_add (pv 8) (pv 10)) pa_nil))) pe_bl (by rfl))))))
      (pss_one (ps_expr (pe_bmK (K := K) rfl PySem.F.plainAttrs_list PySem.F.slot_list_append PySem.F.type_list_append mt_append (pv 3) (pa_cons (pe_tup (pa_cons (pv 7) (pa_cons (pv 8) (pa_cons (pv 6) (pa_cons (pv 5) pa_nil))))) pa_nil))))))))
      (pss_one (ps_ret (pv 3)))))), ?_⟩)
  rintro ⟨cols, cells⟩ hp
  simp only [cxOf, Cx.nox, Cx.wish, Cx.blk, S_grid_places, N_grid_places, startR, PSpec.S_args, PSpec.S_mu, PSpec.S_pre, PSpec.S_post, List.map_cons, List.map_nil, List.length_cons, List.length_nil, Nat.reduceAdd, Nat.reduceSub, List.replicate_succ, List.replicate_zero, List.cons_append, List.nil_append, List.append_nil] at hp ⊢
  obtain ⟨h1, h2, h3, h4⟩ := hp
  walk_at "go"
  refine we_dnewT ?_
  walk_at "go"
  refine we_lstM0 ?_
  walk_at "go"
  refine ws_for (fun i ρ m => ∃ (ps : List Plc) (f : List Key → Bool) (n : Nat) (x1 x2 x3 x4 x5 x6 x7 : Option SV), ρ = [some (.dat (.int (cols : Int))), some (.dat (encC cells)), some (.ob 0), some (.ob 1), x1, x2, x3, x4, x5, x6, x7] ∧
    m = [.dT f n, .lst (ps.map Plc.enc)] ∧ n ≤ i * 100 ∧ (∀ r c, tkF f r c = tkOf ps r c) ∧ Pl cols (cells.take i) ps) (wi_list ?_)
  walk_at "go"
  refine ⟨⟨[], _, _, _, _, _, _, _, _, _, rfl, rfl, Nat.zero_le _, fun r c => rfl, rfl, fun i w d h => by simp at h⟩, ?_, ?_⟩
  · rintro i dd ρ m hd ⟨ps, f, n, x1, x2, x3, x4, x5, x6, x7, rfl, rfl, hn, hf, hP⟩
    obtain ⟨⟨wi, de⟩, hc, rfl⟩ := map_got hd
    have hi : i < cells.length := (List.getElem?_eq_some_iff.mp hc).1
    obtain ⟨b1, b2⟩ := h4 _ (List.mem_of_getElem? hc)
    simp only at b1 b2
    have hpl : ps.length = i := by rw [hP.1, List.length_take]; omega
    walk_at "go"
    have hm : (if (cols : Int) < (wi : Int) then (cols : Int) else (wi : Int)) = ((min wi cols : Nat) : Int) := by
      split <;> omega
    rw [hm]
    obtain ⟨s, hs⟩ : ∃ s, min wi cols = s := ⟨_, rfl⟩
    have hs1 : s ≤ cols := by omega
    have hs2 : s ≤ 10 := by omega
    rw [hs]
    refine we_callM ?_
    walk_at "go"
    refine ⟨⟨f, n, cols, s, de⟩, [0], rfl, by simp, rfl, fun i hi => ?_, ⟨by show cols ≤ 1000; omega, by show de ≤ 1000; omega, hs1, ?_⟩, ?_⟩
    · simp [S_first_place] at hi; simp [hi]
    · obtain ⟨R, hR⟩ := tk_far ps
      exact ⟨R, fun r c h => by show tkF f r c = false; rw [hf]; exact hR r c h⟩
    rintro t mc ⟨rfl, r, c, rfl, hFP⟩
    dsimp only [backV, putAll, List.drop, List.length_cons, List.length_nil, List.append_nil, lset0, lsetS, Nat.zero_add]
    walk_at "go"
    have hFP2 : FP (tkOf ps) cols s de r c := by
      have : tkF f = tkOf ps := funext fun a => funext fun b => hf a b
      rw [← this]; exact hFP
    refine ws_for (fun j ρ m => ∃ (f' : List Key → Bool) (n' : Nat) (x6 x7 : Option SV), ρ = [some (.dat (.int (cols : Int))), some (.dat (encC cells)), some (.ob 0), some (.ob 1), some (.dat (.int (wi : Int))), some (.dat (.int (de : Int))), some (.dat (.int (s : Int))), some (.dat (.int (r : Int))), some (.dat (.int (c : Int))), x6, x7] ∧
      m = [.dT f' n', .lst (ps.map Plc.enc)] ∧ n' ≤ i * 100 + j * 10 ∧ (∀ r' c', tkF f' r' c' = (tkOf ps r' c' || (⟨r, c, s, j⟩ : Plc).has r' c'))) (wi_r1 ?_)
    walk_at "go"
    refine ⟨_, rfl, by omega, ⟨f, n, _, _, rfl, rfl, by omega, fun r' c' => ?_⟩, ?_, ?_⟩
    · rw [hf]
      have : (⟨r, c, s, 0⟩ : Plc).has r' c' = false := by unfold Plc.has; simp; omega
      rw [this, Bool.or_false]
    · rintro j dd ρ m hd ⟨f', n', x6, x7, rfl, rfl, hn', hf'⟩
      obtain ⟨hj, rfl⟩ := rngD_get hd
      rw [show (0 : Int) + (j : Nat) = (j : Int) by omega]
      walk_at "go"
      refine ws_for (fun k ρ m => ∃ (f'' : List Key → Bool) (n'' : Nat) (x7 : Option SV), ρ = [some (.dat (.int (cols : Int))), some (.dat (encC cells)), some (.ob 0), some (.ob 1), some (.dat (.int (wi : Int))), some (.dat (.int (de : Int))), some (.dat (.int (s : Int))), some (.dat (.int (r : Int))), some (.dat (.int (c : Int))), some (.dat (.int (j : Int))), x7] ∧
        m = [.dT f'' n'', .lst (ps.map Plc.enc)] ∧ n'' ≤ i * 100 + j * 10 + k ∧ (∀ r' c', tkF f'' r' c' = (tkOf ps r' c' || (⟨r, c, s, j⟩ : Plc).has r' c' || decide (r' = r + j ∧ c ≤ c' ∧ c' < c + k)))) (wi_r1 ?_)
      walk_at "go"
      refine ⟨_, rfl, by omega, ⟨f', n', _, rfl, rfl, by omega, fun r' c' => ?_⟩, ?_, ?_⟩
      · rw [hf']
        have : decide (r' = r + j ∧ c ≤ c' ∧ c' < c + 0) = false := decide_eq_false (by omega)
        rw [this, Bool.or_false]
      · rintro k dd ρ m hd ⟨f'', n'', x7, rfl, rfl, hn'', hf''⟩
        obtain ⟨hk, rfl⟩ := rngD_get hd
        rw [show (0 : Int) + (k : Nat) = (k : Int) by omega]
        walk_at "go"
        refine ws_tput ?_
        walk_at "go"
        refine ⟨0, f'', n'', _, _, rfl, rfl, rfl, rfl, by omega, ?_⟩
        walk_at "go"
        refine ⟨_, _, _, rfl, rfl, by omega, fun r' c' => ?_⟩
        show (decide (cellK r' c' = [.inl ((r : Int) + (j : Int)), .inl ((c : Int) + (k : Int))]) || tkF f'' r' c') = _
        rw [hf'']
        have e1 : decide (cellK r' c' = [.inl ((r : Int) + (j : Int)), .inl ((c : Int) + (k : Int))]) = decide (r' = r + j ∧ c' = c + k) := by
          apply decide_eq_decide.mpr
          unfold cellK
          constructor
          · intro h
            injection h with h1 h2
            injection h2 with h2 h3
            injection h1 with h1
            injection h2 with h2
            omega
          · rintro ⟨rfl, rfl⟩
            rw [Int.natCast_add, Int.natCast_add]
        rw [e1]
        have e2 : decide (r' = r + j ∧ c ≤ c' ∧ c' < c + (k + 1)) = (decide (r' = r + j ∧ c' = c + k) || decide (r' = r + j ∧ c ≤ c' ∧ c' < c + k)) := by
          rw [← Bool.decide_or]
          apply decide_eq_decide.mpr
          omega
        rw [e2]
        cases tkOf ps r' c' <;> cases (⟨r, c, s, j⟩ : Plc).has r' c' <;> simp
      · rintro ρ m ⟨f'', n'', x7, rfl, rfl, hn'', hf''⟩
        rw [rngD_len, Int.toNat_natCast] at hf'' hn''
        walk_at "go"
        refine ⟨_, _, _, _, rfl, rfl, by omega, fun r' c' => ?_⟩
        rw [hf'', Bool.or_assoc]
        congr 1
        unfold Plc.has
        rw [← Bool.decide_or]
        apply decide_eq_decide.mpr
        simp only
        omega
    · rintro ρ m ⟨f', n', x6, x7, rfl, rfl, hn', hf'⟩
      rw [rngD_len, Int.toNat_natCast] at hf' hn'
      walk_at "go"
      refine ap2 rfl (by rw [List.length_map]; omega) ?_
      walk_at "go"
      refine ⟨ps ++ [⟨r, c, s, de⟩], _, _, _, _, _, _, _, _, _, rfl, by rw [List.map_append]; rfl, by omega, fun r' c' => by rw [hf', tk_app], by rw [List.length_append, hpl, List.length_take]; simp; omega, fun k wk dk hk => ?_⟩
      by_cases e : k = i
      · subst e
        rw [List.getElem?_take_of_lt (by omega), hc] at hk
        cases hk
        refine ⟨r, c, ?_, ?_⟩
        · rw [← hpl, List.getElem?_append_right (Nat.le_refl _), Nat.sub_self, hs]; rfl
        · rw [← hpl, List.take_append_of_le_length (Nat.le_refl _), List.take_length, hs]; exact hFP2
      · have hk2 : k < i := by
          have := (List.getElem?_eq_some_iff.mp hk).1
          rw [List.length_take] at this; omega
        rw [List.getElem?_take_of_lt (by omega)] at hk
        obtain ⟨a, b, q1, q2⟩ := hP.2 k wk dk (by rw [List.getElem?_take_of_lt hk2]; exact hk)
        exact ⟨a, b, by rw [List.getElem?_append_left (by omega)]; exact q1, by rw [List.take_append_of_le_length (by omega)]; exact q2⟩
  · rintro ρ m ⟨ps, f, n, x1, x2, x3, x4, x5, x6, x7, rfl, rfl, hn, hf, hP⟩
    rw [List.length_map, List.take_length] at hP
    walk_at "go"
    exact ret_m (Nat.zero_le _) rfl ⟨rfl, _, rfl, ps, rfl, hP⟩
end
end LP
end

section
set_option maxHeartbeats 4000000
/-! G3b: grids, how high the rows are. -/
namespace LP
open PySem PySem.Spec PyProof.Rows L2
def ghStep (found : List Int) (row : Nat) (m : Int) (q : Plc × Int) : Int :=
  if q.1.r + q.1.d = row + 1 then (if q.2 - (found.drop q.1.r).sum > m then q.2 - (found.drop q.1.r).sum else m) else m
def ghMost (found : List Int) (row : Nat) (zs : List (Plc × Int)) : Int := zs.foldl (ghStep found row) 0
def ghHighs (ps : List Plc) (hs : List Int) : Nat → List Int
  | 0 => []
  | k + 1 => ghHighs ps hs k ++ [ghMost (ghHighs ps hs k) k (ps.zip hs)]
def IsRows (ps : List Plc) (N : Nat) : Prop := (∀ p ∈ ps, p.r + p.d ≤ N) ∧ (N = 0 ∨ ∃ p ∈ ps, p.r + p.d = N)
theorem IsRows.uniq {ps : List Plc} {N M : Nat} (h : IsRows ps N) (h' : IsRows ps M) : N = M := by
  have one : ∀ {N M : Nat}, IsRows ps N → IsRows ps M → N ≤ M := by
    intro N M h h'
    rcases h.2 with z | ⟨p, hp, e⟩
    · omega
    · have := h'.1 p hp; omega
  exact Nat.le_antisymm (one h h') (one h' h)
theorem ghHighs_len (ps : List Plc) (hs : List Int) : ∀ k, (ghHighs ps hs k).length = k
  | 0 => rfl
  | k + 1 => by rw [ghHighs, List.length_append, ghHighs_len ps hs k]; rfl
section
variable {P : Program} {w : World} {K : PySem.W.Frag} {mg : Str → Option Value} {base : Heap}
def S_grid_highs : PSpec (List Plc × List Int) := ⟨fun x => [.lst (x.1.map Plc.enc), encI x.2], fun x => x.1.length ≤ 1000 ∧ x.1.length = x.2.length ∧ ∀ p ∈ x.1, p.r + p.d ≤ 100000,
  fun x d => ∃ N, IsRows x.1 N ∧ d = encI (ghHighs x.1 x.2 N)⟩
theorem ok_grid_highs (T : Top K mg) : Has P w K mg base 1 "grid_highs" ["places", "highs"] (spG K S_grid_highs.S) := by
  refine has_ok T.d_grid_highs sc_grid_highs (fun _ => rfl) (fun _ _ _ _ _ _ us hl => match us, hl with | [_, _], _ => rfl) (fun f cdv A outer s H E hr => ⟨_, (pss_cons (ps_set (i := 2) sc_grid_highs.nd rfl (.inl rfl) (pe_lst pa_nil))
      (pss_cons (ps_for PassesOwn.never rfl (pi_range1 (by rfl) T.b_range (pa_cons (pe_callB (cr_maxK (K := K) rfl rfl) (by rfl) T.b_max bt_max (pa_cons (pe_op op_cat (pe_lst (pa_cons pe_int pa_nil)) (pe_lc (own := [("place", 3)]) (g := (gName 3)) (tt := tYes) rfl sc_grid_highs.nd (pi_listK (K := K) rfl (pv 0)) (blkOk_by (N := N_grid_highs) (sc := defScope s_grid_highs) (by decide +kernel)) (fun _ _ _ _ _ => (pg_name (i := 3) sc_grid_highs.nd rfl (.inl rfl))) (fun _ _ _ _ _ => pts_nil) (fun _ _ _ _ _ => (pe_op op_add (pe_ix (ix_tupK (K := K) rfl) (pv 3) pe_int (fun _ _ => rfl)) (pe_ix (ix_tupK (K := K) rfl) (pv 3) pe_int (fun _ _ => rfl)))))) pa_nil)) pa_nil)) (pg_name (i := 4) sc_grid_highs.nd rfl (.inl rfl)) (pss_cons (ps_set (i := 5) sc_grid_highs.nd rfl (.inl rfl) pe_int)
      (pss_cons (ps_for PassesOwn.never rfl (pi_zipK (K := K) rfl (by rfl) T.b_zip (pa_cons (pv 0) (pa_cons (pv 1) pa_nil))) (pg_tupK (K := K) rfl rfl (pgs_cons (pg_name (i := 3) sc_grid_highs.nd rfl (.inl rfl)) (pgs_cons (pg_name (i := 6) sc_grid_highs.nd rfl (.inl rfl)) pgs_nil))) (pss_one (ps_if (pt_cmpR op_eq (pe_op op_add (pe_ix (ix_tupK (K := K) rfl) (pv 3) pe_int (fun _ _ => rfl)) (pe_ix (ix_tupK (K := K) rfl) (pv 3) pe_int (fun _ _ => rfl))) (pe_op op_add (pv 4) pe_int) (nomark _)) (pss_one (ps_set (i := 5) sc_grid_highs.nd rfl (.inl rfl) (pe_callB (call_max2 rfl) (by rfl) T.b_max bt_max (pa_cons (pv 5) (pa_cons (pe_op op_sub (pv 6) (pe_callB (cr_sumK (K := K) rfl rfl) (by rfl) T.b_sum bt_sum (pa_cons (pe_slice (sl_listK (K := K) rfl) (pv 2) (po_some (pe_ix (ix_tupK (K := K) rfl) (pv 3) pe_int (fun _ _ => rfl))) po_none) pa_nil))) pa_nil))))) pss_nil)))
      (pss_one (ps_expr (pe_bmK (K := K) rfl PySem.F.plainAttrs_list PySem.F.slot_list_append PySem.F.type_list_append mt_append (pv 2) (pa_cons (pv 5) pa_nil)))))))
      (pss_one (ps_ret (pv 2))))), ?_⟩)
  rintro ⟨ps, hs⟩ hp
  simp only [cxOf, Cx.nox, Cx.wish, Cx.blk, S_grid_highs, N_grid_highs, startR, PSpec.S_args, PSpec.S_mu, PSpec.S_pre, PSpec.S_post, List.map_cons, List.map_nil, List.length_cons, List.length_nil, Nat.reduceAdd, Nat.reduceSub, List.replicate_succ, List.replicate_zero, List.cons_append, List.nil_append, List.append_nil] at hp ⊢
  obtain ⟨h1, h2, h3⟩ := hp
  walk_at "go"
  refine we_lstM0 ?_
  walk_at "go"
  refine ws_forE (wi_r1 ?_)
  walk_at "go"
  refine we_lst1 ?_
  walk_at "go"
  refine we_lcM (α := Plc) (gin_name (by decide)) (wi_list ?_)
  walk_at "go"
  refine ⟨ps, Plc.enc, fun p => .int ((p.r : Int) + (p.d : Int)), rfl, by omega, rfl, fun i p hp => ?_, ?_⟩
  · walk_at "go"
    refine ⟨rfl, ?_⟩
    walk_at "go"
    exact ⟨rfl, rfl⟩
  refine wr_cat isl_d isl_d (by simp; omega) ?_
  walk_at "go"
  refine wc_max (ns := 0 :: ps.map fun p => (p.r : Int) + (p.d : Int)) (.inl (by simp [Function.comp_def])) (by simp) (fun m hm1 hm2 => ?_)
  walk_at "go"
  have hm0 := hm2 0 (by simp)
  obtain ⟨N, rfl⟩ : ∃ N : Nat, m = (N : Int) := ⟨m.toNat, by omega⟩
  have hN : IsRows ps N := by
    refine ⟨fun p hp => ?_, ?_⟩
    · have := hm2 ((p.r : Int) + (p.d : Int)) (List.mem_cons_of_mem _ (List.mem_map.mpr ⟨p, hp, rfl⟩)); omega
    · rcases List.mem_cons.mp hm1 with z | z
      · left; omega
      · obtain ⟨p, hp, e⟩ := List.mem_map.mp z
        exact .inr ⟨p, hp, by omega⟩
  have hNb : N ≤ 100000 := by
    rcases hN.2 with z | ⟨p, hp, e⟩
    · omega
    · have := h3 p hp; omega
  refine ⟨_, rfl, by omega, fun i ρ m => ∃ (x3 x4 x5 x6 : Option SV), ρ = [some (.dat (.lst (ps.map Plc.enc))), some (.dat (encI hs)), some (.ob 0), x3, x4, x5, x6] ∧ m = [.lst ((ghHighs ps hs i).map D.int)], ⟨_, _, _, _, rfl, rfl⟩, ?_, ?_⟩
  · rintro i dd ρ m hd ⟨x3, x4, x5, x6, rfl, rfl⟩
    obtain ⟨hi, rfl⟩ := rngD_get hd
    rw [show (0 : Int) + (i : Nat) = (i : Int) by omega]
    walk_at "go"
    refine ws_for (fun j ρ m => m = [.lst ((ghHighs ps hs i).map D.int)] ∧ ∃ (x3 x6 : Option SV), ρ = [some (.dat (.lst (ps.map Plc.enc))), some (.dat (encI hs)), some (.ob 0), x3, some (.dat (.int (i : Int))), some (.dat (.int (ghMost (ghHighs ps hs i) i ((ps.zip hs).take j)))), x6]) (wi_zip ?_)
    walk_at "go"
    refine ⟨_, _, rfl, ⟨rfl, _, _, rfl⟩, ?_, ?_⟩
    · rintro j dd ρ m hd ⟨rfl, x3, x6, rfl⟩
      obtain ⟨x, y, hx, hy, rfl⟩ := zipD_get hd
      obtain ⟨p, hpp, rfl⟩ := map_got hx
      obtain ⟨h, hhh, rfl⟩ := map_got hy
      have hz : (ps.zip hs)[j]? = some (p, h) := List.getElem?_zip_eq_some.mpr ⟨hpp, hhh⟩
      have hst : ghMost (ghHighs ps hs i) i ((ps.zip hs).take (j + 1)) = ghStep (ghHighs ps hs i) i (ghMost (ghHighs ps hs i) i ((ps.zip hs).take j)) (p, h) := by
        unfold ghMost
        rw [List.take_add_one, hz, List.foldl_append]; rfl
      walk_at "go"
      refine ifd (fun c => ?_) (fun c => ?_)
      · walk_at "go"
        refine ⟨_, isl_m rfl, ?_⟩
        walk_at "go"
        rw [cut_from, ← List.map_drop]
        refine wc_sum isl_d ?_
        walk_at "go"
        unfold ghStep at hst
        rw [if_pos (show (p.r + p.d = i + 1) by omega)] at hst
        rw [hst]
        exact ⟨rfl, _, _, rfl⟩
      · walk_at "go"
        unfold ghStep at hst
        rw [if_neg (show ¬ (p.r + p.d = i + 1) by omega)] at hst
        rw [hst]
        exact ⟨rfl, _, _, rfl⟩
    · rintro ρ m ⟨rfl, x3, x6, rfl⟩
      have e : (ps.zip hs).take (zipD (ps.map Plc.enc) (hs.map D.int)).length = ps.zip hs := by
        rw [zipD_len, List.length_map, List.length_map, ← List.length_zip, List.take_length]
      rw [e]
      walk_at "go"
      refine ap2 rfl (by rw [List.length_map, ghHighs_len]; omega) ?_
      walk_at "go"
      exact ⟨_, _, _, _, rfl, by rw [ghHighs, List.map_append]; rfl⟩
  · rintro ρ m ⟨x3, x4, x5, x6, rfl, rfl⟩
    rw [rngD_len, Int.toNat_natCast]
    walk_at "go"
    exact ret_m (Nat.zero_le _) rfl ⟨rfl, _, rfl, N, hN, rfl⟩
end
end LP
end

section
set_option maxHeartbeats 4000000
/-! G4: faces, words, units. -/
namespace LP
open PySem PySem.Spec PyProof.Rows L2
structure Fc where
  h : Int
  b : Int
  w : Int
  odd : List (Str × Int)
@[reducible] def encOd (odd : List (Str × Int)) : D := .lst (odd.map fun q => .tup [.str q.1, .int q.2])
@[reducible] def Fc.enc (f : Fc) : D := .tup [.int f.h, .int f.b, .int f.w, encOd f.odd]
@[reducible] def encFs (fs : List Fc) : D := .lst (fs.map Fc.enc)
def FcOk (f : Fc) : Prop := (1 ≤ f.h ∧ f.h ≤ 100) ∧ (0 ≤ f.b ∧ f.b ≤ 100) ∧ (0 ≤ f.w ∧ f.w ≤ 100) ∧ f.odd.length ≤ 100 ∧ ∀ q ∈ f.odd, 0 ≤ q.2 ∧ q.2 ≤ 100
inductive Pc where
  | word (z : Str) (t : Int) | page (z : Str) (t : Int) | note (k : Nat)
def Pc.enc : Pc → D
  | .word z t => .tup [.str "word", .str z, .int t]
  | .page z t => .tup [.str "page", .str z, .int t]
  | .note k => .tup [.str "note", .int (k : Int), .int 0]
def Pc.isNote : Pc → Bool
  | .note _ => true
  | _ => false
def PcOk (m : Nat) : Pc → Prop
  | .word z _ => z.cps.size ≤ 100
  | .page _ _ => True
  | .note k => k < m
def PcsOk (pcs : List Pc) (m : Nat) : Prop := pcs.length ≤ 1000 ∧ (∃ p, pcs[0]? = some p ∧ p.isNote = false) ∧ ∀ p ∈ pcs, PcOk m p
@[reducible] def encSh (sh : List (Str × Str)) : D := .lst (sh.map fun q => .tup [.str q.1, .str q.2])
def ShOk (sh : List (Str × Str)) : Prop := ∀ q ∈ sh, q.2.cps.size ≤ 100
theorem sum_bd {B : Int} : ∀ {ns : List Int}, (∀ n ∈ ns, 0 ≤ n ∧ n ≤ B) → 0 ≤ ns.sum ∧ ns.sum ≤ B * ns.length
  | [], _ => by simp
  | n :: r, h => by
    obtain ⟨h1, h2⟩ := sum_bd fun x hx => h x (List.mem_cons_of_mem _ hx)
    obtain ⟨h3, h4⟩ := h n List.mem_cons_self
    rw [List.sum_cons, List.length_cons, Int.natCast_add, Int.mul_add]
    exact ⟨by omega, by simp; omega⟩
section
variable {P : Program} {w : World} {K : PySem.W.Frag} {mg : Str → Option Value} {base : Heap}
def S_face_at : PSpec (List Fc × Int) := ⟨fun x => [encFs x.1, .int x.2], fun x => x.1 ≠ [], fun x d => ∃ f ∈ x.1, d = f.enc⟩
theorem ok_face_at (T : Top K mg) : Has P w K mg base 1 "face_at" ["faces", "number"] (spG K S_face_at.S) := by
  refine has_ok T.d_face_at sc_face_at (fun _ => rfl) (fun _ _ _ _ _ _ us hl => match us, hl with | [_, _], _ => rfl) (fun f cdv A outer s H E hr => ⟨_, (pss_cons (ps_asg (pe_ix (ix_listK (K := K) rfl) (pv 0) (pe_op op_mod (pv 1) (pe_callB (call_lenK (K := K) rfl) (by rfl) T.b_len bt_len (pa_cons (pv 0) pa_nil))) (fun _ _ => rfl)) (pg_tupK (K := K) rfl rfl (pgs_cons (pg_name (i := 2) sc_face_at.nd rfl (.inl rfl)) (pgs_cons (pg_name (i := 3) sc_face_at.nd rfl (.inl rfl)) (pgs_cons (pg_name (i := 4) sc_face_at.nd rfl (.inl rfl)) (pgs_cons (pg_name (i := 5) sc_face_at.nd rfl (.inl rfl)) pgs_nil))))))
      (pss_one (ps_ret (pe_tup (pa_cons (pv 2) (pa_cons (pv 3) (pa_cons (pv 4) (pa_cons (pe_callTy (call_listK (K := K) rfl) (by rfl) T.b_list bt_list (pa_cons (pv 5) pa_nil)) pa_nil)))))))), ?_⟩)
  rintro ⟨fs, v⟩ hp
  simp only [cxOf, Cx.nox, Cx.wish, Cx.blk, S_face_at, N_face_at, startR, PSpec.S_args, PSpec.S_mu, PSpec.S_pre, PSpec.S_post, List.map_cons, List.map_nil, List.length_cons, List.length_nil, Nat.reduceAdd, Nat.reduceSub, List.replicate_succ, List.replicate_zero, List.cons_append, List.nil_append, List.append_nil] at hp ⊢
  have hl := List.length_pos_iff.mpr hp
  have hl2 : (0 : Int) < ((fs.map Fc.enc).length : Int) := by rw [List.length_map]; omega
  walk_at "go"
  refine wr_mod hl2 ?_
  have b1 := Int.emod_nonneg v (show ((fs.map Fc.enc).length : Int) ≠ 0 by omega)
  have b2 := Int.emod_lt_of_pos v hl2
  obtain ⟨j, hj⟩ : ∃ j : Nat, v % ((fs.map Fc.enc).length : Int) = (j : Int) := ⟨(v % ((fs.map Fc.enc).length : Int)).toNat, by omega⟩
  rw [hj] at b2 ⊢
  rw [List.length_map] at b2
  have hx := getI (xs := fs) (i := j) (by omega)
  refine wr_ixL isl_d (at_m hx) ?_
  walk_at "go"
  refine wc_list isl_d ?_
  walk_at "go"
  exact ⟨rfl, _, rfl, _, List.mem_of_getElem? hx, rfl⟩

def S_word_width : PSpec (Fc × Str) := ⟨fun x => [x.1.enc, .str x.2], fun x => FcOk x.1 ∧ x.2.cps.size ≤ 100, fun _ d => ∃ i, d = .int i ∧ 0 ≤ i ∧ i ≤ 10000⟩
theorem ok_word_width (T : Top K mg) : Has P w K mg base 1 "word_width" ["face", "word"] (spG K S_word_width.S) := by
  refine has_ok T.d_word_width sc_word_width (fun _ => rfl) (fun _ _ _ _ _ _ us hl => match us, hl with | [_, _], _ => rfl) (fun f cdv A outer s H E hr => ⟨_, (pss_cons (ps_asg (pv 0) (pg_tupK (K := K) rfl rfl (pgs_cons (pg_name (i := 2) sc_word_width.nd rfl (.inl rfl)) (pgs_cons (pg_name (i := 3) sc_word_width.nd rfl (.inl rfl)) (pgs_cons (pg_name (i := 4) sc_word_width.nd rfl (.inr rfl)) (pgs_cons (pg_name (i := 5) sc_word_width.nd rfl (.inl rfl)) pgs_nil))))))
      (pss_cons (ps_set (i := 6) sc_word_width.nd rfl (.inr rfl) pe_dnewK)
      (pss_cons (ps_for PassesOwn.never rfl (pi_listK (K := K) rfl (pv 5)) (pg_tupK (K := K) rfl rfl (pgs_cons (pg_name (i := 7) sc_word_width.nd rfl (.inl rfl)) (pgs_cons (pg_name (i := 8) sc_word_width.nd rfl (.inl rfl)) pgs_nil))) (pss_one (ps_dput (hu_of hr) (pv 6) (pv 7) (pv 8) (by rfl))))
      (pss_one (ps_ret (pe_callB (cr_sumK (K := K) rfl rfl) (by rfl) T.b_sum bt_sum (pa_cons (pe_lc (own := [("sign", 7)]) (g := (gName 7)) (tt := tYes) rfl sc_word_width.nd (pi_str (pv 1)) (blkOk_by (N := N_word_width) (sc := defScope s_word_width) (by decide +kernel)) (fun _ _ _ _ _ => (pg_name (i := 7) sc_word_width.nd rfl (.inl rfl))) (fun _ _ _ _ _ => pts_nil) (fun _ _ _ _ _ => (pe_dget2 (hu_of hr) (pv 6) (pv 7) (pv 4) ⟨rfl, rfl, rfl, rfl⟩))) pa_nil))))))), ?_⟩)
  rintro ⟨⟨h, b, w, odd⟩, z⟩ hp
  simp only [cxOf, Cx.nox, Cx.wish, Cx.blk, S_word_width, N_word_width, startR, PSpec.S_args, PSpec.S_mu, PSpec.S_pre, PSpec.S_post, List.map_cons, List.map_nil, List.length_cons, List.length_nil, Nat.reduceAdd, Nat.reduceSub, List.replicate_succ, List.replicate_zero, List.cons_append, List.nil_append, List.append_nil] at hp ⊢
  obtain ⟨⟨h1, h2, h3, h4, h5⟩, h6⟩ := hp
  walk_at "go"
  refine we_dnewK ?_
  walk_at "go"
  refine ws_for (fun i ρ m => ∃ (f : Key → Option D) (n : Nat) (x7 x8 : Option SV), ρ = [some (.dat (Fc.enc ⟨h, b, w, odd⟩)), some (.dat (.str z)), some (.dat (.int h)), some (.dat (.int b)), some (.dat (.int w)), some (.dat (encOd odd)), some (.ob 0), x7, x8] ∧
    m = [.dK f n] ∧ n ≤ i ∧ ∀ k d, f k = some d → ∃ v, d = .int v ∧ 0 ≤ v ∧ v ≤ 100) (wi_list ?_)
  walk_at "go"
  refine ⟨⟨_, 0, _, _, rfl, rfl, Nat.le_refl _, fun k d hk => by cases hk⟩, ?_, ?_⟩
  · rintro i dd ρ m hd ⟨f, n, x7, x8, rfl, rfl, hn, hf⟩
    obtain ⟨q, hq, rfl⟩ := map_got hd
    have hi : i < odd.length := (List.getElem?_eq_some_iff.mp hq).1
    obtain ⟨b1, b2⟩ := h5 q (List.mem_of_getElem? hq)
    simp only at h4 b1 b2
    walk_at "go"
    refine ws_dput ?_
    walk_at "go"
    refine ⟨0, f, n, .inr q.1, rfl, rfl, rfl, by omega, ?_⟩
    walk_at "go"
    refine ⟨_, _, _, _, rfl, rfl, by omega, fun k d hk => ?_⟩
    by_cases e : k = .inr q.1
    · rw [if_pos e] at hk
      cases hk
      exact ⟨q.2, rfl, b1, b2⟩
    · rw [if_neg e] at hk
      exact hf k d hk
  · rintro ρ m ⟨f, n, x7, x8, rfl, rfl, hn, hf⟩
    walk_at "go"
    refine we_lc (gin_name (by decide)) (fun i ys m => m = [.dK f n] ∧ ∃ ns : List Int, ys = ns.map D.int ∧ ∀ v ∈ ns, 0 ≤ v ∧ v ≤ 100) (wi_str ?_)
    walk_at "go"
    refine so ?_
    have hzl : (strD z).length ≤ 100 := by unfold strD; simpa using h6
    refine ⟨⟨rfl, [], rfl, fun v hv => by cases hv⟩, ?_, ?_⟩
    · rintro i dd ys m hd ⟨rfl, ns, rfl, hns⟩ hyl
      have hi : i < (strD z).length := (List.getElem?_eq_some_iff.mp hd).1
      unfold strD at hd
      obtain ⟨c, hc, rfl⟩ := map_got hd
      walk_at "go"
      rw [if_pos rfl]
      refine we_dget2 ?_
      walk_at "go"
      refine ⟨0, f, n, rfl, rfl, ?_⟩
      walk_at "go"
      refine ⟨f, n, .inr ⟨#[c]⟩, _, rfl, rfl, rfl, ?_⟩
      have key : ∃ v, (f (.inr ⟨#[c]⟩)).getD (.int w) = .int v ∧ 0 ≤ v ∧ v ≤ 100 := by
        cases q : f (.inr ⟨#[c]⟩) with
        | none => exact ⟨w, rfl, h3.1, h3.2⟩
        | some d => obtain ⟨v, e, b⟩ := hf _ _ q; exact ⟨v, e, b⟩
      obtain ⟨v, e, b1⟩ := key
      rw [e]
      refine ⟨by omega, rfl, ns ++ [v], by rw [List.map_append]; rfl, fun y hy => ?_⟩
      rcases List.mem_append.mp hy with hy | hy
      · exact hns y hy
      · rw [List.mem_singleton.mp hy]; exact b1
    · rintro ys m ⟨rfl, ns, rfl, hns⟩ hyl
      obtain ⟨b1, b2⟩ := sum_bd hns
      rw [List.length_map] at hyl
      walk_at "go"
      refine wc_sum isl_d ?_
      walk_at "go"
      exact ⟨rfl, _, rfl, _, rfl, b1, by omega⟩

def S_word_of : PSpec (Pc × List (Str × Str)) := ⟨fun x => [x.1.enc, encSh x.2], fun x => x.1.isNote = false ∧ PcOk 0 x.1 ∧ ShOk x.2, fun _ d => ∃ z, d = .str z ∧ z.cps.size ≤ 100⟩
theorem ok_word_of (T : Top K mg) : Has P w K mg base 1 "word_of" ["piece", "shown"] (spG K S_word_of.S) := by
  obtain ⟨u_UNKNOWN, m_UNKNOWN, r_UNKNOWN, k_UNKNOWN⟩ := T.c_UNKNOWN
  refine has_ok T.d_word_of sc_word_of (fun _ => rfl) (fun _ _ _ _ _ _ us hl => match us, hl with | [_, _], _ => rfl) (fun f cdv A outer s H E hr => ⟨_, (pss_cons (ps_asg (pv 0) (pg_tupK (K := K) rfl rfl (pgs_cons (pg_name (i := 2) sc_word_of.nd rfl (.inl rfl)) (pgs_cons (pg_name (i := 3) sc_word_of.nd rfl (.inl rfl)) (pgs_cons (pg_name (i := 4) sc_word_of.nd rfl (.inl rfl)) pgs_nil)))))
      (pss_cons (ps_if (pt_cmpR op_eq (pv 2) pe_str (nomark _)) (pss_one (ps_ret (pv 3))) pss_nil)
      (pss_one (ps_ret (pe_dget2 (hu_of hr) (pe_callTy (call_dictK (K := K) rfl rfl) (by rfl) T.b_dict bt_dict (pa_cons (pv 1) pa_nil)) (pv 3) (pe_glob (by rfl) m_UNKNOWN r_UNKNOWN) ⟨rfl, rfl, rfl, rfl⟩))))), ?_⟩)
  rintro ⟨p, sh⟩ hp
  simp only [cxOf, Cx.nox, Cx.wish, Cx.blk, S_word_of, N_word_of, startR, PSpec.S_args, PSpec.S_mu, PSpec.S_pre, PSpec.S_post, List.map_cons, List.map_nil, List.length_cons, List.length_nil, Nat.reduceAdd, Nat.reduceSub, List.replicate_succ, List.replicate_zero, List.cons_append, List.nil_append, List.append_nil] at hp ⊢
  obtain ⟨h1, h2, h3⟩ := hp
  cases p with
  | note k => cases h1
  | word z t =>
    simp only [Pc.enc]
    walk_at "go"
    refine ifd (fun _ => ?_) (fun h => absurd rfl h)
    walk_at "go"
    exact ⟨rfl, _, rfl, z, rfl, h2⟩
  | page z t =>
    simp only [Pc.enc]
    walk_at "go"
    refine ifd (fun h => absurd h (by decide +kernel)) (fun _ => ?_)
    walk_at "go"
    refine we_dget2 ?_
    walk_at "go"
    refine wc_dict (prs := sh.map fun q => (.inr q.1, .str q.2)) (.inl (by rw [List.map_map]; rfl)) ?_
    walk_at "go"
    refine ⟨0, _, _, rfl, rfl, ?_⟩
    walk_at "go"
    refine ⟨_, _, .inr z, _, rfl, rfl, rfl, ?_⟩
    walk_at "go"
    refine ⟨rfl, _, rfl, ?_⟩
    cases q : dictD (sh.map fun q => ((.inr q.1 : Key), D.str q.2)) (.inr z) with
    | none => exact ⟨"?", rfl, by decide⟩
    | some d =>
      obtain ⟨y, hy, e⟩ := List.mem_map.mp (dictD_mem q)
      cases e
      exact ⟨y.2, rfl, h3 y hy⟩

def S_piece_wide : PSpec (Fc × Pc × List (Str × Str)) := ⟨fun x => [x.1.enc, x.2.1.enc, encSh x.2.2, .bl false], fun x => FcOk x.1 ∧ x.2.1.isNote = false ∧ PcOk 0 x.2.1 ∧ ShOk x.2.2, fun _ d => ∃ i, d = .int i ∧ 0 ≤ i ∧ i ≤ 10000⟩
theorem ok_piece_wide (T : Top K mg) : Has P w K mg base 2 "piece_wide" ["face", "piece", "shown", "held"] (spG K S_piece_wide.S) := by
  have h_word_width := ok_word_width (P := P) (w := w) (K := K) (base := base) T
  have h_word_of := ok_word_of (P := P) (w := w) (K := K) (base := base) T
  refine has_ok T.d_piece_wide sc_piece_wide (fun _ => rfl) (fun _ _ _ _ _ _ us hl => match us, hl with | [_, _, _, _], _ => rfl) (fun f cdv A outer s H E hr => ⟨_, (pss_cons (ps_set (i := 4) sc_piece_wide.nd rfl (.inl rfl) (pe_has h_word_width hr (by omega) (by rfl) (pa_cons (pv 0) (pa_cons (pe_has h_word_of hr (by omega) (by rfl) (pa_cons (pv 1) (pa_cons (pv 2) pa_nil))) pa_nil))))
      (pss_cons (ps_if (PW.pt (pw_and (pt_val (pv 3)) (pw_and1 (pt_cmpR op_eq (pe_ix (ix_tupK (K := K) rfl) (pv 1) pe_int (fun _ _ => rfl)) pe_str (nomark _))))) pss_never pss_nil)
      (pss_one (ps_ret (pv 4))))), ?_⟩)
  rintro ⟨f, p, sh⟩ hp
  simp only [cxOf, Cx.nox, Cx.wish, Cx.blk, S_piece_wide, N_piece_wide, startR, PSpec.S_args, PSpec.S_mu, PSpec.S_pre, PSpec.S_post, List.map_cons, List.map_nil, List.length_cons, List.length_nil, Nat.reduceAdd, Nat.reduceSub, List.replicate_succ, List.replicate_zero, List.cons_append, List.nil_append, List.append_nil] at hp ⊢
  obtain ⟨h0, h1, h2, h3⟩ := hp
  walk_at "go"
  refine ⟨(p, sh), rfl, ⟨h1, h2, h3⟩, fun d hd => ?_⟩
  obtain ⟨z, rfl, hz⟩ := hd
  walk_at "go"
  refine ⟨(f, z), rfl, ⟨h0, hz⟩, fun d hd => ?_⟩
  obtain ⟨i, rfl, hi⟩ := hd
  walk_at "go"
  exact ⟨rfl, _, rfl, i, rfl, hi⟩

def S_rows_high : PSpec (List Un) := ⟨fun x => [encU x], fun x => x ≠ [] ∧ x.length ≤ 1000, fun x d => ∃ h, d = .int h ∧ (∃ u ∈ x, u.h = h) ∧ ∀ u ∈ x, u.h ≤ h⟩
theorem ok_rows_high (T : Top K mg) : Has P w K mg base 1 "rows_high" ["units"] (spG K S_rows_high.S) := by
  refine has_ok T.d_rows_high sc_rows_high (fun _ => rfl) (fun _ _ _ _ _ _ us hl => match us, hl with | [_], _ => rfl) (fun f cdv A outer s H E hr => ⟨_, (pss_one (ps_ret (pe_callB (cr_maxK (K := K) rfl rfl) (by rfl) T.b_max bt_max (pa_cons (pe_lc (own := [("wide", 1), ("blank", 2), ("high", 3), ("piece", 4), ("notes", 5)]) (g := (gTup K 5 (gCons (gName 1) (gCons (gName 2) (gCons (gName 3) (gCons (gName 4) (gCons (gName 5) gNil))))))) (tt := tYes) rfl sc_rows_high.nd (pi_listK (K := K) rfl (pv 0)) (blkOk_by (N := N_rows_high) (sc := defScope s_rows_high) (by decide +kernel)) (fun _ _ _ _ _ => (pg_tupK (K := K) rfl rfl (pgs_cons (pg_name (i := 1) sc_rows_high.nd rfl (.inl rfl)) (pgs_cons (pg_name (i := 2) sc_rows_high.nd rfl (.inl rfl)) (pgs_cons (pg_name (i := 3) sc_rows_high.nd rfl (.inl rfl)) (pgs_cons (pg_name (i := 4) sc_rows_high.nd rfl (.inl rfl)) (pgs_cons (pg_name (i := 5) sc_rows_high.nd rfl (.inl rfl)) pgs_nil))))))) (fun _ _ _ _ _ => pts_nil) (fun _ _ _ _ _ => (pv 3))) pa_nil)))), ?_⟩)
  rintro us hp
  simp only [cxOf, Cx.nox, Cx.wish, Cx.blk, S_rows_high, N_rows_high, startR, PSpec.S_args, PSpec.S_mu, PSpec.S_pre, PSpec.S_post, List.map_cons, List.map_nil, List.length_cons, List.length_nil, Nat.reduceAdd, Nat.reduceSub, List.replicate_succ, List.replicate_zero, List.cons_append, List.nil_append, List.append_nil] at hp ⊢
  obtain ⟨h0, h1⟩ := hp
  walk_at "go"
  refine we_lcM (α := Un) (gin_tup (gin_cons (gin_name (by decide)) (gin_cons (gin_name (by decide)) (gin_cons (gin_name (by decide)) (gin_cons (gin_name (by decide)) (gin_cons (gin_name (by decide)) gin_nil)))))) (wi_list ?_)
  walk_at "go"
  refine ⟨us, Un.enc, fun u => .int u.h, rfl, by omega, rfl, fun i u hu => ?_, ?_⟩
  · walk_at "go"
    refine ⟨rfl, ?_⟩
    walk_at "go"
    exact ⟨rfl, rfl⟩
  walk_at "go"
  refine wc_max (ns := us.map Un.h) (.inl (by rw [List.map_map]; rfl)) (by simpa using h0) (fun m hm1 hm2 => ?_)
  walk_at "go"
  obtain ⟨u, hu, e⟩ := List.mem_map.mp hm1
  exact ⟨rfl, _, rfl, m, rfl, ⟨u, hu, e⟩, fun u hu => hm2 _ (List.mem_map.mpr ⟨u, hu, rfl⟩)⟩
end
end LP
end

section
set_option maxHeartbeats 4000000
/-! G4b: the units of the nodes. -/
namespace LP
open PySem PySem.Spec PyProof.Rows L2
/-- the units of a text -/
def Good2 (us : List Un) : Prop := GoodU us ∧ ∀ u ∈ us, 1 ≤ u.h ∧ u.h ≤ 100
/-- the pieces of the nodes with units -/
def PieOk (ns : List Nd) : Prop := ∀ (i : Nat) n, ns[i]? = some n → n.kd.wu = true → ∃ pcs, n.st = .lst (pcs.map Pc.enc) ∧ PcsOk pcs (hold ns i).length
structure NUg where
  ns : List Nd
  lks : List (List Int)
  fs : List Fc
  sh : List (Str × Str)
def NUok (x : NUg) : Prop := x.ns.length ≤ 1000 ∧ LkOk x.lks x.ns.length ∧ x.fs ≠ [] ∧ (∀ f ∈ x.fs, FcOk f) ∧ ShOk x.sh ∧ PieOk x.ns
section
variable {P : Program} {w : World} {K : PySem.W.Frag} {mg : Str → Option Value} {base : Heap}
def S_node_units : PSpec (NUg × Nat) := ⟨fun x => [encB x.1.ns, encLk x.1.lks, encFs x.1.fs, encSh x.1.sh, .bl false, .int (x.2 : Int)], fun x => NUok x.1 ∧ x.2 < x.1.ns.length,
  fun x d => ∃ us, d = encU us ∧ ∀ n, x.1.ns[x.2]? = some n → n.kd.wu = true → us ≠ [] ∧ Good2 us⟩
theorem ok_node_units (T : Top K mg) : Has P w K mg base 3 "node_units" ["book", "looks", "faces", "shown", "held", "node"] (spG K S_node_units.S) := by
  have h_holds := ok_holds (P := P) (w := w) (K := K) (base := base) T
  have h_face_at := ok_face_at (P := P) (w := w) (K := K) (base := base) T
  have h_look_at := ok_look_at (P := P) (w := w) (K := K) (base := base) T
  have h_piece_wide := ok_piece_wide (P := P) (w := w) (K := K) (base := base) T
  obtain ⟨u_WITH_UNITS, m_WITH_UNITS, r_WITH_UNITS, k_WITH_UNITS⟩ := T.c_WITH_UNITS
  refine has_ok T.d_node_units sc_node_units (fun _ => rfl) (fun _ _ _ _ _ _ us hl => match us, hl with | [_, _, _, _, _, _], _ => rfl) (fun f cdv A outer s H E hr => ⟨_, (pss_cons (ps_set (i := 6) sc_node_units.nd rfl (.inl rfl) (pe_lst pa_nil))
      (pss_cons (ps_if (pt_cmpR (op_niK (K := K) rfl) (pe_ix (ix_tupK (K := K) rfl) (pe_ix (ix_listK (K := K) rfl) (pv 0) (pv 5) (fun _ _ => rfl)) pe_int (fun _ _ => rfl)) (pe_glob (by rfl) m_WITH_UNITS r_WITH_UNITS) (by rfl)) (pss_one (ps_ret (pv 6))) pss_nil)
      (pss_cons (ps_set (i := 7) sc_node_units.nd rfl (.inl rfl) (pe_has h_holds hr (by omega) (by rfl) (pa_cons (pv 0) (pa_cons (pv 5) pa_nil))))
      (pss_cons (ps_for PassesOwn.never rfl (pi_enumK (K := K) rfl (by rfl) T.b_enumerate (pa_cons (pe_ix (ix_tupK (K := K) rfl) (pe_ix (ix_listK (K := K) rfl) (pv 0) (pv 5) (fun _ _ => rfl)) pe_int (fun _ _ => rfl)) pa_nil)) (pg_tupK (K := K) rfl rfl (pgs_cons (pg_name (i := 8) sc_node_units.nd rfl (.inl rfl)) (pgs_cons (pg_name (i := 9) sc_node_units.nd rfl (.inl rfl)) pgs_nil))) (pss_one (ps_if (pt_cmpR op_eq (pe_ix (ix_tupK (K := K) rfl) (pv 9) pe_int (fun _ _ => rfl)) pe_str (nomark _)) (pss_one (ps_expr (pe_bmK (K := K) rfl PySem.F.plainAttrs_list PySem.F.slot_list_append PySem.F.type_list_append mt_append (pe_ix (ix_tupK (K := K) rfl) (pe_ix (ix_listK (K := K) rfl) (pv 6) (pe_un un_neg pe_int) (fun _ _ => rfl)) pe_int (fun _ _ => rfl)) (pa_cons (pe_ix (ix_listK (K := K) rfl) (pv 7) (pe_ix (ix_tupK (K := K) rfl) (pv 9) pe_int (fun _ _ => rfl)) (fun _ _ => rfl)) pa_nil)))) (pss_cons (ps_set (i := 10) sc_node_units.nd rfl (.inl rfl) (pe_has h_face_at hr (by omega) (by rfl) (pa_cons (pv 2) (pa_cons (pe_op op_add (pe_has h_look_at hr (by omega) (by rfl) (pa_cons (pv 1) (pa_cons (pv 5) (pa_cons pe_str pa_nil)))) (pe_ix (ix_tupK (K := K) rfl) (pv 9) pe_int (fun _ _ => rfl))) pa_nil))))
      (pss_one (ps_expr (pe_bmK (K := K) rfl PySem.F.plainAttrs_list PySem.F.slot_list_append PySem.F.type_list_append mt_append (pv 6) (pa_cons (pe_tup (pa_cons (pe_has h_piece_wide hr (by omega) (by rfl) (pa_cons (pv 10) (pa_cons (pv 9) (pa_cons (pv 3) (pa_cons (pv 4) pa_nil))))) (pa_cons (pe_ix (ix_tupK (K := K) rfl) (pv 10) pe_int (fun _ _ => rfl)) (pa_cons (pe_ix (ix_tupK (K := K) rfl) (pv 10) pe_int (fun _ _ => rfl)) (pa_cons (pv 8) (pa_cons (pe_lst pa_nil) pa_nil)))))) pa_nil))))))))
      (pss_one (ps_ret (pv 6))))))), ?_⟩)
  rintro ⟨⟨ns, lks, fs, sh⟩, i⟩ hp
  simp only [cxOf, Cx.nox, Cx.wish, Cx.blk, S_node_units, N_node_units, startR, PSpec.S_args, PSpec.S_mu, PSpec.S_pre, PSpec.S_post, List.map_cons, List.map_nil, List.length_cons, List.length_nil, Nat.reduceAdd, Nat.reduceSub, List.replicate_succ, List.replicate_zero, List.cons_append, List.nil_append, List.append_nil] at hp ⊢
  obtain ⟨⟨h1, h2, h3, h4, h5, h6⟩, hi⟩ := hp
  simp only at h1 h2 h3 h4 h5 h6 hi
  have hn := getI hi
  obtain ⟨n, hnn⟩ : ∃ n, ns[i] = n := ⟨_, rfl⟩
  rw [hnn] at hn
  walk_at "go"
  refine we_lstM0 ?_
  walk_at "go"
  refine wr_ixL isl_d (at_m hn) ?_
  walk_at "go"
  refine wr_niK ?_
  rw [kd_wu]
  walk_at "go"
  cases hk : n.kd.wu with
  | false =>
    refine ift ?_
    walk_at "go"
    refine ret_m (Nat.zero_le _) rfl ⟨rfl, _, rfl, [], rfl, fun n' h h' => ?_⟩
    rw [hn] at h; cases h
    rw [hk] at h'; cases h'
  | true =>
  refine iff' ?_
  walk_at "go"
  obtain ⟨pcs, hst, hp1, ⟨p0, hp0, hp0n⟩, hp2⟩ := h6 i n hn hk
  refine ⟨(ns, i), rfl, ⟨hi, h1⟩, fun d hd => ?_⟩
  simp only [S_holds] at hd
  subst hd
  walk_at "go"
  refine ws_for (fun j ρ m => ∃ (us : List Un) (qs : List (Addr × List D)) (x8 x9 x10 : Option SV), ρ = [some (.dat (encB ns)), some (.dat (encLk lks)), some (.dat (encFs fs)), some (.dat (encSh sh)), some (.dat (.bl false)), some (.dat (.int (i : Int))), some (.ob 0), some (.dat (encN (hold ns i))), x8, x9, x10] ∧
    m = .lst (us.map Un.enc) :: qs.map (fun q => .at q.1 q.2) ∧ us.length = qs.length ∧ us.length ≤ j ∧ (0 < j → us ≠ []) ∧ (∀ (k : Nat) u q, us[k]? = some u → qs[k]? = some q → u.nt = .own q.1) ∧ (∀ q ∈ qs, q.2.length ≤ j) ∧ Good2 us) (wi_enum ?_)
  walk_at "go"
  refine wr_ixL isl_d (at_m hn) ?_
  walk_at "go"
  refine ⟨pcs.map Pc.enc, by rw [hst], ⟨[], [], none, none, none, rfl, rfl, rfl, Nat.le_refl _, fun h => absurd h (Nat.lt_irrefl _), fun k u q h => by simp at h, fun q h => by simp at h, ⟨Nat.zero_le _, fun u h => by simp at h⟩, fun u h => by simp at h⟩, ?_, ?_⟩
  · rintro j dd ρ m hd ⟨us, qs, x8, x9, x10, rfl, rfl, hl, hle, hne, hown, hqs, hgood⟩
    obtain ⟨x, hx, rfl⟩ := enmD_get hd
    obtain ⟨p, hpj, rfl⟩ := map_got hx
    have hj : j < pcs.length := (List.getElem?_eq_some_iff.mp hpj).1
    have hpo := hp2 p (List.mem_of_getElem? hpj)
    cases hpn : p.isNote with
    | true =>
      obtain ⟨k, rfl⟩ : ∃ k, p = .note k := by
        cases p with
        | note k => exact ⟨k, rfl⟩
        | word z t => cases hpn
        | page z t => cases hpn
      have hk : k < (hold ns i).length := hpo
      have hne' : us ≠ [] := hne (by
        rcases Nat.eq_zero_or_pos j with z | z
        · subst z
          rw [hp0] at hpj; cases hpj
          rw [hp0n] at hpn; cases hpn
        · exact z)
      have hul := List.length_pos_iff.mpr hne'
      obtain ⟨L, hL⟩ : ∃ L, us.length = L + 1 := ⟨us.length - 1, by omega⟩
      have hu := getI (xs := us) (i := L) (by omega)
      have hq := getI (xs := qs) (i := L) (by omega)
      obtain ⟨u, hue⟩ : ∃ u, us[L] = u := ⟨_, rfl⟩
      obtain ⟨q, hqe⟩ : ∃ q, qs[L] = q := ⟨_, rfl⟩
      rw [hue] at hu
      rw [hqe] at hq
      have hlast : us.getLast? = some u := by rw [List.getLast?_eq_getElem?, hL]; exact hu
      have hq' : ((.lst (us.map Un.enc) :: qs.map (fun q => Ct.at q.1 q.2)) : List Ct)[L + 1]? = some (.at q.1 q.2) := by
        rw [List.getElem?_cons_succ, List.getElem?_map, hq]; rfl
      simp only [Pc.enc]
      walk_at "go"
      refine ifd (fun _ => ?_) (fun h => absurd rfl h)
      refine ws_drop ?_
      refine we_appendA ?_
      walk_at "go"
      refine wr_ixL (isl_m rfl) (at_last hlast) ?_
      walk_at "go"
      rw [hown L u q hu hq]
      refine ⟨L + 1, q.1, q.2, rfl, hq', ?_⟩
      walk_at "go"
      refine wr_ixL isl_d (at_m (getI hk)) ?_
      walk_at "go"
      have hql := hqs q (List.mem_of_getElem? hq)
      refine ⟨_, q.2, rfl, hq', by omega, ?_⟩
      refine ⟨us, qs.set L (q.1, q.2 ++ [.int ((hold ns i)[k] : Int)]), _, _, _, rfl, ?_, by rw [List.length_set]; exact hl, by omega, fun _ => hne', fun k' u' q' h1 h2 => ?_, fun q' h => ?_, hgood⟩
      · rw [List.map_set]; rfl
      · by_cases e : k' = L
        · subst e
          rw [List.getElem?_set_self (by omega)] at h2
          cases h2
          rw [hu] at h1; cases h1
          exact hown _ _ q hu hq
        · rw [List.getElem?_set_ne (fun z => e z.symm)] at h2
          exact hown k' u' q' h1 h2
      · rcases List.mem_or_eq_of_mem_set h with z | z
        · have := hqs q' z; omega
        · rw [z]; simp; omega
    | false =>
      obtain ⟨s0, v, t, he, hs0⟩ : ∃ s0 v t, p.enc = .tup [.str s0, v, .int t] ∧ s0 ≠ ("note" : Str) := by
        cases p with
        | note k => cases hpn
        | word z t => exact ⟨_, _, _, rfl, by decide +kernel⟩
        | page z t => exact ⟨_, _, _, rfl, by decide +kernel⟩
      have hp0 : PcOk 0 p := by
        cases p with
        | note k => cases hpn
        | word z t => exact hpo
        | page z t => exact hpo
      rw [he]
      walk_at "go"
      refine ifd (fun h => absurd h hs0) (fun _ => ?_)
      walk_at "go"
      obtain ⟨l, e1, e2⟩ := h2.get hi (show 0 < 13 by omega)
      generalize lk lks i 0 = lv at e2
      refine ⟨(lks, i, 0, "face", lv), rfl, ⟨⟨l, e1, e2⟩, rfl⟩, fun d hd => ?_⟩
      simp only [S_look_at] at hd
      subst hd
      walk_at "go"
      refine ⟨(fs, lv + t), rfl, h3, fun d hd => ?_⟩
      obtain ⟨fc, hfc, rfl⟩ := hd
      walk_at "go"
      refine ⟨(fc, p, sh), by simp [S_piece_wide, he], ⟨h4 _ hfc, hpn, hp0, h5⟩, fun d hd => ?_⟩
      obtain ⟨iw, rfl, b1, b2⟩ := hd
      walk_at "go"
      refine we_lstA (fun a => ?_)
      walk_at "go"
      refine ap2 rfl (by rw [List.length_map]; omega) ?_
      walk_at "go"
      obtain ⟨f1, f2, f3, f4⟩ := h4 _ hfc
      refine ⟨us ++ [⟨iw, fc.b, fc.h, .int (j : Int), .own a⟩], qs ++ [(a, [])], _, _, _, rfl, by rw [List.map_append, List.map_append]; rfl, by simp [hl], by simp; omega, fun _ => by simp, fun k' u' q' h1 h2 => ?_, fun q' h => ?_, ⟨by simp; omega, fun u' h => ?_⟩, fun u' h => ?_⟩
      · by_cases e : k' < us.length
        · rw [List.getElem?_append_left e] at h1
          rw [List.getElem?_append_left (by omega)] at h2
          exact hown k' u' q' h1 h2
        · have := (List.getElem?_eq_some_iff.mp h1).1
          rw [List.length_append, List.length_singleton] at this
          have e' : k' = us.length := by omega
          subst e'
          rw [List.getElem?_append_right (Nat.le_refl _), Nat.sub_self] at h1
          rw [hl, List.getElem?_append_right (Nat.le_refl _), Nat.sub_self] at h2
          cases h1; cases h2; rfl
      · rcases List.mem_append.mp h with z | z
        · have := hqs q' z; omega
        · rw [List.mem_singleton.mp z]; simp
      · rcases List.mem_append.mp h with z | z
        · exact hgood.1.2 u' z
        · rw [List.mem_singleton.mp z]
          exact ⟨b1, by simp only; omega, f2.1, by simp only; omega⟩
      · rcases List.mem_append.mp h with z | z
        · exact hgood.2 u' z
        · rw [List.mem_singleton.mp z]
          exact f1
  · rintro ρ m ⟨us, qs, x8, x9, x10, rfl, rfl, hl, hle, hne, hown, hqs, hgood⟩
    rw [enmD_len, List.length_map] at hne
    walk_at "go"
    refine ret_m (Nat.zero_le _) rfl ⟨rfl, _, rfl, us, rfl, fun n' _ _ => ⟨hne ?_, hgood⟩⟩
    exact (List.getElem?_eq_some_iff.mp hp0).1

def S_all_units : PSpec NUg := ⟨fun x => [encB x.ns, encLk x.lks, encFs x.fs, encSh x.sh, .bl false], fun x => NUok x,
  fun x d => ∃ uus, d = encUU uus ∧ uus.length = x.ns.length ∧ ∀ (i : Nat) us n, uus[i]? = some us → x.ns[i]? = some n → n.kd.wu = true → us ≠ [] ∧ Good2 us⟩
theorem ok_all_units (T : Top K mg) : HasD P w K mg base 4 "all_units" ["book", "looks", "faces", "shown", "held"] [V.bl false] (spG K S_all_units.S) := by
  have h_node_units := ok_node_units (P := P) (w := w) (K := K) (base := base) T
  refine has_okD1 T.d_all_units sc_all_units (fun _ => rfl) (fun T kV doc pm an cdv ct us its hl hi => match us, hl, its, hi with | [_, _, _, _], _, [_], _ => ⟨_, rfl, rfl⟩) (fun f cdv A outer s H E hr => ⟨_, (pss_one (ps_ret (pe_lc (own := [("node", 5)]) (g := (gName 5)) (tt := tYes) rfl sc_all_units.nd (pi_range1 (by rfl) T.b_range (pa_cons (pe_callB (call_lenK (K := K) rfl) (by rfl) T.b_len bt_len (pa_cons (pv 0) pa_nil)) pa_nil)) (blkOk_by (N := N_all_units) (sc := defScope s_all_units) (by decide +kernel)) (fun _ _ _ _ _ => (pg_name (i := 5) sc_all_units.nd rfl (.inl rfl))) (fun _ _ _ _ _ => pts_nil) (fun _ _ _ _ _ => (pe_has h_node_units hr (by omega) (by rfl) (pa_cons (pv 0) (pa_cons (pv 1) (pa_cons (pv 2) (pa_cons (pv 3) (pa_cons (pv 4) (pa_cons (pv 5) pa_nil))))))))))), ?_⟩)
  rintro ⟨ns, lks, fs, sh⟩ hp
  simp only [cxOf, Cx.nox, Cx.wish, Cx.blk, S_all_units, N_all_units, startR, PSpec.S_args, PSpec.S_mu, PSpec.S_pre, PSpec.S_post, List.map_cons, List.map_nil, List.length_cons, List.length_nil, Nat.reduceAdd, Nat.reduceSub, List.replicate_succ, List.replicate_zero, List.cons_append, List.nil_append, List.append_nil] at hp ⊢
  have hl := hp.1
  simp only at hl
  walk_at "go"
  refine we_lc (gin_name (by decide)) (fun i ys m => m = [] ∧ ∃ uus : List (List Un), ys = uus.map encU ∧ uus.length = i ∧ ∀ (i : Nat) us n, uus[i]? = some us → ns[i]? = some n → n.kd.wu = true → us ≠ [] ∧ Good2 us) (wi_r1 ?_)
  walk_at "go"
  refine ⟨_, rfl, by rw [List.length_map]; omega, ⟨rfl, [], rfl, rfl, fun i us n h => by simp at h⟩, ?_, ?_⟩
  · rintro i dd ys m hd ⟨rfl, uus, rfl, hul, hus⟩ hyl
    obtain ⟨hi, rfl⟩ := rngD_get hd
    have hi2 : i < ns.length := by rw [List.length_map] at hi; omega
    rw [show (0 : Int) + (i : Nat) = (i : Int) by omega]
    walk_at "go"
    rw [if_pos rfl]
    walk_at "go"
    refine ⟨(⟨ns, lks, fs, sh⟩, i), rfl, ⟨hp, hi2⟩, fun d hd => ?_⟩
    obtain ⟨us, rfl, h⟩ := hd
    refine ⟨by omega, rfl, uus ++ [us], by rw [List.map_append]; rfl, by rw [List.length_append, hul]; rfl, fun k us' n h1 h2 h3 => ?_⟩
    by_cases e : k < uus.length
    · rw [List.getElem?_append_left e] at h1
      exact hus k us' n h1 h2 h3
    · have := (List.getElem?_eq_some_iff.mp h1).1
      rw [List.length_append, List.length_singleton] at this
      have e' : k = uus.length := by omega
      subst e'
      rw [List.getElem?_append_right (Nat.le_refl _), Nat.sub_self] at h1
      cases h1
      exact h n (by rw [← hul]; exact h2) h3
  · rintro ys m ⟨rfl, uus, rfl, hul, hus⟩ hyl
    rw [rngD_len, List.length_map, Int.toNat_natCast] at hul
    walk_at "go"
    exact ⟨rfl, _, rfl, uus, rfl, hul, hus⟩
end
end LP
end

section
set_option maxHeartbeats 4000000
/-! G5: bounds. -/
namespace LP
open PySem PySem.Spec PyProof.Rows L2
theorem cdiv_le {b s B : Int} (hs : 1 ≤ s ∧ s ≤ 6) (hb : 0 ≤ b) (hB : b ≤ B) : 0 ≤ (b + s - 1) / s ∧ (b + s - 1) / s ≤ B := by
  have : s = 1 ∨ s = 2 ∨ s = 3 ∨ s = 4 ∨ s = 5 ∨ s = 6 := by omega
  rcases this with rfl | rfl | rfl | rfl | rfl | rfl <;> omega
theorem col_le {c b B : Int} (hc : 1 ≤ c ∧ c ≤ 6) (hb : 0 ≤ b) (hB : b ≤ B) : 0 ≤ c * b ∧ c * b ≤ 6 * B := by
  have : c = 1 ∨ c = 2 ∨ c = 3 ∨ c = 4 ∨ c = 5 ∨ c = 6 := by omega
  rcases this with rfl | rfl | rfl | rfl | rfl | rfl <;> omega
section
variable {P : Program} {w : World} {K : PySem.W.Frag} {mg : Str → Option Value} {base : Heap}
def S_floor_of : PSpec (List (List Int) × Nat × Int) := ⟨fun x => [encLk x.1, .int (x.2.1 : Int), .int x.2.2], fun x => LkOk x.1 (x.2.1 + 1), fun x d => d = .int (imax x.2.2 (lk x.1 x.2.1 5))⟩
theorem ok_floor_of (T : Top K mg) : Has P w K mg base 2 "floor_of" ["looks", "node", "low"] (spG K S_floor_of.S) := by
  have h_look_at := ok_look_at (P := P) (w := w) (K := K) (base := base) T
  refine has_ok T.d_floor_of sc_floor_of (fun _ => rfl) (fun _ _ _ _ _ _ us hl => match us, hl with | [_, _, _], _ => rfl) (fun f cdv A outer s H E hr => ⟨_, (pss_one (ps_ret (pe_callB (call_max2 rfl) (by rfl) T.b_max bt_max (pa_cons (pv 2) (pa_cons (pe_has h_look_at hr (by omega) (by rfl) (pa_cons (pv 0) (pa_cons (pv 1) (pa_cons pe_str pa_nil)))) pa_nil))))), ?_⟩)
  rintro ⟨lks, i, low⟩ hp
  simp only [cxOf, Cx.nox, Cx.wish, Cx.blk, S_floor_of, N_floor_of, startR, PSpec.S_args, PSpec.S_mu, PSpec.S_pre, PSpec.S_post, List.map_cons, List.map_nil, List.length_cons, List.length_nil, Nat.reduceAdd, Nat.reduceSub, List.replicate_succ, List.replicate_zero, List.cons_append, List.nil_append, List.append_nil] at hp ⊢
  walk_at "go"
  refine lk_go (j := 5) hp (Nat.lt_succ_self _) rfl ?_
  walk_at "go"
  exact ⟨rfl, _, rfl, rfl⟩
def S_roof_of : PSpec (List (List Int) × Nat × Int) := ⟨fun x => [encLk x.1, .int (x.2.1 : Int), .int x.2.2], fun x => LkOk x.1 (x.2.1 + 1), fun x d => d = .int (imax (lk x.1 x.2.1 6) (imax x.2.2 (lk x.1 x.2.1 5)))⟩
theorem ok_roof_of (T : Top K mg) : Has P w K mg base 3 "roof_of" ["looks", "node", "low"] (spG K S_roof_of.S) := by
  have h_floor_of := ok_floor_of (P := P) (w := w) (K := K) (base := base) T
  have h_look_at := ok_look_at (P := P) (w := w) (K := K) (base := base) T
  refine has_ok T.d_roof_of sc_roof_of (fun _ => rfl) (fun _ _ _ _ _ _ us hl => match us, hl with | [_, _, _], _ => rfl) (fun f cdv A outer s H E hr => ⟨_, (pss_one (ps_ret (pe_callB (call_max2 rfl) (by rfl) T.b_max bt_max (pa_cons (pe_has h_look_at hr (by omega) (by rfl) (pa_cons (pv 0) (pa_cons (pv 1) (pa_cons pe_str pa_nil)))) (pa_cons (pe_has h_floor_of hr (by omega) (by rfl) (pa_cons (pv 0) (pa_cons (pv 1) (pa_cons (pv 2) pa_nil)))) pa_nil))))), ?_⟩)
  rintro ⟨lks, i, low⟩ hp
  simp only [cxOf, Cx.nox, Cx.wish, Cx.blk, S_roof_of, N_roof_of, startR, PSpec.S_args, PSpec.S_mu, PSpec.S_pre, PSpec.S_post, List.map_cons, List.map_nil, List.length_cons, List.length_nil, Nat.reduceAdd, Nat.reduceSub, List.replicate_succ, List.replicate_zero, List.cons_append, List.nil_append, List.append_nil] at hp ⊢
  walk_at "go"
  refine lk_go (j := 6) hp (Nat.lt_succ_self _) rfl ?_
  walk_at "go"
  refine ⟨(lks, i, low), rfl, hp, fun d hd => ?_⟩
  simp only [S_floor_of] at hd
  subst hd
  walk_at "go"
  exact ⟨rfl, _, rfl, rfl⟩
def S_units_bounds : PSpec (List Un) := ⟨fun x => [encU x], fun x => x ≠ [] ∧ x.length ≤ 1000 ∧ ∀ u ∈ x, 0 ≤ u.w ∧ u.w ≤ 100000, fun x d => ∃ a b, d = pr (a, b) ∧ 0 ≤ a ∧ a ≤ 100000⟩
theorem ok_units_bounds (T : Top K mg) : Has P w K mg base 1 "units_bounds" ["units"] (spG K S_units_bounds.S) := by
  refine has_ok T.d_units_bounds sc_units_bounds (fun _ => rfl) (fun _ _ _ _ _ _ us hl => match us, hl with | [_], _ => rfl) (fun f cdv A outer s H E hr => ⟨_, (pss_cons (ps_setLc (i := 1) (own := [("unit", 2)]) (g := (gName 2)) (tt := tYes) rfl sc_units_bounds.nd rfl rfl (sw_true rfl rfl rfl (by decide +kernel)) (pi_listK (K := K) rfl (pv 0)) (blkOk_by (N := N_units_bounds) (sc := defScope s_units_bounds) (by decide +kernel)) (fun _ _ _ _ _ => (pg_name (i := 2) sc_units_bounds.nd rfl (.inl rfl))) (fun _ _ _ _ _ => pts_nil) (fun _ _ _ _ _ => (pe_ix (ix_tupK (K := K) rfl) (pv 2) pe_int (fun _ _ => rfl))))
      (pss_one (ps_ret (pe_tup (pa_cons (pe_callB (cr_maxK (K := K) rfl rfl) (by rfl) T.b_max bt_max (pa_cons (pv 1) pa_nil)) (pa_cons (pe_op op_add (pe_callB (cr_sumK (K := K) rfl rfl) (by rfl) T.b_sum bt_sum (pa_cons (pv 1) pa_nil)) (pe_callB (cr_sumK (K := K) rfl rfl) (by rfl) T.b_sum bt_sum (pa_cons (pe_lc (own := [("unit", 2)]) (g := (gName 2)) (tt := tYes) rfl sc_units_bounds.nd (pi_listK (K := K) rfl (pe_slice (sl_listK (K := K) rfl) (pv 0) po_none (po_some (pe_un un_neg pe_int)))) (blkOk_by (N := N_units_bounds) (sc := defScope s_units_bounds) (by decide +kernel)) (fun _ _ _ _ _ => (pg_name (i := 2) sc_units_bounds.nd rfl (.inl rfl))) (fun _ _ _ _ _ => pts_nil) (fun _ _ _ _ _ => (pe_ix (ix_tupK (K := K) rfl) (pv 2) pe_int (fun _ _ => rfl)))) pa_nil))) pa_nil)))))), ?_⟩)
  rintro us hp
  simp only [cxOf, Cx.nox, Cx.wish, Cx.blk, S_units_bounds, N_units_bounds, startR, PSpec.S_args, PSpec.S_mu, PSpec.S_pre, PSpec.S_post, List.map_cons, List.map_nil, List.length_cons, List.length_nil, Nat.reduceAdd, Nat.reduceSub, List.replicate_succ, List.replicate_zero, List.cons_append, List.nil_append, List.append_nil] at hp ⊢
  obtain ⟨h0, h1, h2⟩ := hp
  walk_at "go"
  refine we_lcM (α := Un) (gin_name (by decide)) (wi_list ?_)
  walk_at "go"
  refine ⟨us, Un.enc, fun u => .int u.w, rfl, by omega, rfl, fun i u hu => ?_, ?_⟩
  · walk_at "go"
    refine ⟨rfl, ?_⟩
    walk_at "go"
    exact ⟨rfl, rfl⟩
  have em : us.map (fun u => D.int u.w) = (us.map Un.w).map D.int := by rw [List.map_map]; rfl
  rw [em]
  walk_at "go"
  refine wc_max isl_d (by simpa using h0) (fun m hm1 hm2 => ?_)
  walk_at "go"
  refine wc_sum isl_d ?_
  walk_at "go"
  refine we_lcM (α := Un) (gin_name (by decide)) (wi_list ?_)
  walk_at "go"
  refine ⟨_, isl_d, ?_⟩
  rw [cut_init, ← List.map_take]
  refine lo ?_
  refine ⟨us.take ((us.map Un.enc).length - 1), Un.enc, fun u => .int u.b, rfl, by rw [List.length_take]; omega, rfl, fun i u hu => ?_, ?_⟩
  · walk_at "go"
    refine ⟨rfl, ?_⟩
    walk_at "go"
    exact ⟨rfl, rfl⟩
  have em2 : ∀ l : List Un, l.map (fun u => D.int u.b) = (l.map Un.b).map D.int := fun l => by rw [List.map_map]; rfl
  rw [em2]
  walk_at "go"
  refine wc_sum isl_d ?_
  walk_at "go"
  obtain ⟨u, hu, e⟩ := List.mem_map.mp hm1
  obtain ⟨b1, b2⟩ := h2 u hu
  exact ⟨rfl, _, rfl, m, _, rfl, by omega, by omega⟩

structure CBg where
  ns : List Nd
  lks : List (List Int)
  bs : List (Int × Int)
  ks : List Nat
  B : Int
  c : Int
def LowOk (x : CBg) : Prop := 200 ≤ x.B ∧ x.ks.length ≤ 1000 ∧ x.ns.length ≤ 1000 ∧ LkR x.lks x.ns.length ∧ x.bs.length = x.ns.length ∧ ∀ k ∈ x.ks, k < x.ns.length ∧ ∀ p, x.bs[k]? = some p → 0 ≤ p.1 ∧ p.1 ≤ x.B
def S_column_bounds : PSpec CBg := ⟨fun x => [encB x.ns, encLk x.lks, encP x.bs, encN x.ks], LowOk, fun x d => ∃ a b, d = pr (a, b) ∧ 0 ≤ a ∧ a ≤ x.B⟩
theorem ok_column_bounds (T : Top K mg) : Has P w K mg base 2 "column_bounds" ["book", "looks", "bounds", "some"] (spG K S_column_bounds.S) := by
  have h_look_at := ok_look_at (P := P) (w := w) (K := K) (base := base) T
  refine has_ok T.d_column_bounds sc_column_bounds (fun _ => rfl) (fun _ _ _ _ _ _ us hl => match us, hl with | [_, _, _, _], _ => rfl) (fun f cdv A outer s H E hr => ⟨_, (pss_cons (ps_set (i := 4) sc_column_bounds.nd rfl (.inl rfl) pe_int)
      (pss_cons (ps_set (i := 5) sc_column_bounds.nd rfl (.inl rfl) pe_int)
      (pss_cons (ps_for PassesOwn.never rfl (pi_listK (K := K) rfl (pv 3)) (pg_name (i := 6) sc_column_bounds.nd rfl (.inl rfl)) (pss_cons (ps_asg (pe_ix (ix_listK (K := K) rfl) (pv 2) (pv 6) (fun _ _ => rfl)) (pg_tupK (K := K) rfl rfl (pgs_cons (pg_name (i := 7) sc_column_bounds.nd rfl (.inl rfl)) (pgs_cons (pg_name (i := 8) sc_column_bounds.nd rfl (.inl rfl)) pgs_nil))))
      (pss_cons (ps_if (pt_cmpR op_eq (pe_ix (ix_tupK (K := K) rfl) (pe_ix (ix_listK (K := K) rfl) (pv 0) (pv 6) (fun _ _ => rfl)) pe_int (fun _ _ => rfl)) pe_str (nomark _)) (pss_cons (ps_set (i := 7) sc_column_bounds.nd rfl (.inl rfl) (pe_has h_look_at hr (by omega) (by rfl) (pa_cons (pv 1) (pa_cons (pv 6) (pa_cons pe_str pa_nil)))))
      (pss_one (ps_set (i := 8) sc_column_bounds.nd rfl (.inl rfl) (pv 7)))) pss_nil)
      (pss_cons (ps_set (i := 4) sc_column_bounds.nd rfl (.inl rfl) (pe_callB (call_max2 rfl) (by rfl) T.b_max bt_max (pa_cons (pv 4) (pa_cons (pv 7) pa_nil))))
      (pss_one (ps_set (i := 5) sc_column_bounds.nd rfl (.inl rfl) (pe_callB (call_max2 rfl) (by rfl) T.b_max bt_max (pa_cons (pv 5) (pa_cons (pv 8) pa_nil)))))))))
      (pss_one (ps_ret (pe_tup (pa_cons (pv 4) (pa_cons (pv 5) pa_nil)))))))), ?_⟩)
  rintro ⟨ns, lks, bs, ks, B, c⟩ hp
  simp only [cxOf, Cx.nox, Cx.wish, Cx.blk, S_column_bounds, N_column_bounds, startR, PSpec.S_args, PSpec.S_mu, PSpec.S_pre, PSpec.S_post, List.map_cons, List.map_nil, List.length_cons, List.length_nil, Nat.reduceAdd, Nat.reduceSub, List.replicate_succ, List.replicate_zero, List.cons_append, List.nil_append, List.append_nil] at hp ⊢
  obtain ⟨hB, hkl, hnl, hL, hbl, hk⟩ := hp
  simp only at hB hkl hnl hL hbl hk
  walk_at "go"
  refine ws_for (fun i ρ m => m = [] ∧ ∃ (a b : Int) (x6 x7 x8 : Option SV), ρ = [some (.dat (encB ns)), some (.dat (encLk lks)), some (.dat (encP bs)), some (.dat (encN ks)), some (.dat (.int a)), some (.dat (.int b)), x6, x7, x8] ∧ 0 ≤ a ∧ a ≤ B) (wi_list ?_)
  walk_at "go"
  refine ⟨⟨rfl, _, _, _, _, _, rfl, by omega, by omega⟩, ?_, ?_⟩
  · rintro i dd ρ m hd ⟨rfl, a, b, x6, x7, x8, rfl, ha1, ha2⟩
    obtain ⟨k, hkk, rfl⟩ := map_got hd
    obtain ⟨hk1, hk2⟩ := hk k (List.mem_of_getElem? hkk)
    have hb := getI (xs := bs) (i := k) (by omega)
    have hn := getI hk1
    obtain ⟨q1, q2⟩ := hk2 _ hb
    walk_at "gi"
    refine wr_ixL isl_d (at_m hb) ?_
    walk_at "gi"
    refine ws_mid (fun ρ m => m = [] ∧ ∃ (le mo : Int), ρ = [some (.dat (encB ns)), some (.dat (encLk lks)), some (.dat (encP bs)), some (.dat (encN ks)), some (.dat (.int a)), some (.dat (.int b)), some (.dat (.int (k : Int))), some (.dat (.int le)), some (.dat (.int mo))] ∧ 0 ≤ le ∧ le ≤ B) ?_ ?_
    · walk_at "go"
      refine wr_ixL isl_d (at_m hn) ?_
      walk_at "go"
      refine ifd (fun _ => ?_) (fun _ => ?_)
      · walk_at "go"
        refine lk_go (j := 11) hL.ok hk1 rfl ?_
        walk_at "go"
        have := hL.wide k hk1
        exact ⟨rfl, _, _, rfl, by omega, by omega⟩
      · walk_at "go"
        exact ⟨rfl, _, _, rfl, q1, q2⟩
    · rintro ρ m ⟨rfl, le, mo, rfl, c1, c2⟩
      walk_at "go"
      exact ⟨rfl, _, _, _, _, _, rfl, by split <;> omega, by split <;> omega⟩
  · rintro ρ m ⟨rfl, a, b, x6, x7, x8, rfl, ha1, ha2⟩
    walk_at "go"
    exact ⟨rfl, _, rfl, a, b, rfl, ha1, ha2⟩

def S_shelf_bounds : PSpec CBg := ⟨fun x => [encLk x.lks, encP x.bs, encN x.ks], LowOk, fun x d => ∃ a b, d = pr (a, b) ∧ 0 ≤ a ∧ a ≤ x.ks.length * x.B⟩
theorem ok_shelf_bounds (T : Top K mg) : Has P w K mg base 4 "shelf_bounds" ["looks", "bounds", "some"] (spG K S_shelf_bounds.S) := by
  have h_floor_of := ok_floor_of (P := P) (w := w) (K := K) (base := base) T
  have h_roof_of := ok_roof_of (P := P) (w := w) (K := K) (base := base) T
  refine has_ok T.d_shelf_bounds sc_shelf_bounds (fun _ => rfl) (fun _ _ _ _ _ _ us hl => match us, hl with | [_, _, _], _ => rfl) (fun f cdv A outer s H E hr => ⟨_, (pss_cons (ps_set (i := 3) sc_shelf_bounds.nd rfl (.inl rfl) pe_int)
      (pss_cons (ps_set (i := 4) sc_shelf_bounds.nd rfl (.inl rfl) pe_int)
      (pss_cons (ps_for PassesOwn.never rfl (pi_listK (K := K) rfl (pv 2)) (pg_name (i := 5) sc_shelf_bounds.nd rfl (.inl rfl)) (pss_cons (ps_set (i := 6) sc_shelf_bounds.nd rfl (.inl rfl) (pe_has h_floor_of hr (by omega) (by rfl) (pa_cons (pv 0) (pa_cons (pv 5) (pa_cons (pe_ix (ix_tupK (K := K) rfl) (pe_ix (ix_listK (K := K) rfl) (pv 1) (pv 5) (fun _ _ => rfl)) pe_int (fun _ _ => rfl)) pa_nil)))))
      (pss_cons (ps_aug (i := 3) sc_shelf_bounds.nd rfl (.inl rfl) (pv 6) ip_add)
      (pss_one (ps_aug (i := 4) sc_shelf_bounds.nd rfl (.inl rfl) (pe_callB (call_min2 rfl) (by rfl) T.b_min bt_min (pa_cons (pe_callB (call_max2 rfl) (by rfl) T.b_max bt_max (pa_cons (pe_ix (ix_tupK (K := K) rfl) (pe_ix (ix_listK (K := K) rfl) (pv 1) (pv 5) (fun _ _ => rfl)) pe_int (fun _ _ => rfl)) (pa_cons (pv 6) pa_nil))) (pa_cons (pe_has h_roof_of hr (by omega) (by rfl) (pa_cons (pv 0) (pa_cons (pv 5) (pa_cons (pe_ix (ix_tupK (K := K) rfl) (pe_ix (ix_listK (K := K) rfl) (pv 1) (pv 5) (fun _ _ => rfl)) pe_int (fun _ _ => rfl)) pa_nil)))) pa_nil))) ip_add)))))
      (pss_one (ps_ret (pe_tup (pa_cons (pv 3) (pa_cons (pv 4) pa_nil)))))))), ?_⟩)
  rintro ⟨ns, lks, bs, ks, B, c⟩ hp
  simp only [cxOf, Cx.nox, Cx.wish, Cx.blk, S_shelf_bounds, N_shelf_bounds, startR, PSpec.S_args, PSpec.S_mu, PSpec.S_pre, PSpec.S_post, List.map_cons, List.map_nil, List.length_cons, List.length_nil, Nat.reduceAdd, Nat.reduceSub, List.replicate_succ, List.replicate_zero, List.cons_append, List.nil_append, List.append_nil] at hp ⊢
  obtain ⟨hB, hkl, hnl, hL, hbl, hk⟩ := hp
  simp only at hB hkl hnl hL hbl hk
  walk_at "go"
  refine ws_for (fun i ρ m => m = [] ∧ ∃ (a b : Int) (x5 x6 : Option SV), ρ = [some (.dat (encLk lks)), some (.dat (encP bs)), some (.dat (encN ks)), some (.dat (.int a)), some (.dat (.int b)), x5, x6] ∧ 0 ≤ a ∧ a ≤ i * B) (wi_list ?_)
  walk_at "go"
  refine ⟨⟨rfl, _, _, _, _, rfl, by omega, by simp⟩, ?_, ?_⟩
  · rintro i dd ρ m hd ⟨rfl, a, b, x6, x7, rfl, ha1, ha2⟩
    obtain ⟨k, hkk, rfl⟩ := map_got hd
    obtain ⟨hk1, hk2⟩ := hk k (List.mem_of_getElem? hkk)
    have hb := getI (xs := bs) (i := k) (by omega)
    obtain ⟨q1, q2⟩ := hk2 _ hb
    have hle := hL.least k hk1
    walk_at "go"
    refine wr_ixL isl_d (at_m hb) ?_
    walk_at "go"
    refine ⟨(lks, k, bs[k].1), rfl, hL.ok.mono hk1, fun d hd => ?_⟩
    simp only [S_floor_of] at hd
    subst hd
    walk_at "go"
    refine wr_ixL isl_d (at_m hb) ?_
    walk_at "go"
    refine wr_ixL isl_d (at_m hb) ?_
    walk_at "go"
    refine ⟨(lks, k, bs[k].1), rfl, hL.ok.mono hk1, fun d hd => ?_⟩
    simp only [S_roof_of] at hd
    subst hd
    walk_at "go"
    refine ⟨rfl, _, _, _, _, rfl, ?_, ?_⟩
    · unfold imax; split <;> omega
    · have e : (((i + 1 : Nat) : Int)) * B = i * B + B := by rw [Int.natCast_add, Int.add_mul]; simp
      rw [e]
      unfold imax; split <;> omega
  · rintro ρ m ⟨rfl, a, b, x6, x7, rfl, ha1, ha2⟩
    rw [List.length_map] at ha2
    walk_at "go"
    exact ⟨rfl, _, rfl, a, b, rfl, ha1, ha2⟩

def S_grid_bounds : PSpec CBg := ⟨fun x => [encLk x.lks, encP x.bs, encN x.ks, .int x.c], fun x => LowOk x ∧ 1 ≤ x.c ∧ x.c ≤ 6, fun x d => ∃ a b, d = pr (a, b) ∧ 0 ≤ a ∧ a ≤ 6 * x.B⟩
theorem ok_grid_bounds (T : Top K mg) : Has P w K mg base 2 "grid_bounds" ["looks", "bounds", "some", "columns"] (spG K S_grid_bounds.S) := by
  have h_look_at := ok_look_at (P := P) (w := w) (K := K) (base := base) T
  refine has_ok T.d_grid_bounds sc_grid_bounds (fun _ => rfl) (fun _ _ _ _ _ _ us hl => match us, hl with | [_, _, _, _], _ => rfl) (fun f cdv A outer s H E hr => ⟨_, (pss_cons (ps_set (i := 4) sc_grid_bounds.nd rfl (.inl rfl) pe_int)
      (pss_cons (ps_set (i := 5) sc_grid_bounds.nd rfl (.inl rfl) pe_int)
      (pss_cons (ps_for PassesOwn.never rfl (pi_listK (K := K) rfl (pv 2)) (pg_name (i := 6) sc_grid_bounds.nd rfl (.inl rfl)) (pss_cons (ps_set (i := 7) sc_grid_bounds.nd rfl (.inl rfl) (pe_callB (call_min2 rfl) (by rfl) T.b_min bt_min (pa_cons (pe_has h_look_at hr (by omega) (by rfl) (pa_cons (pv 0) (pa_cons (pv 6) (pa_cons pe_str pa_nil)))) (pa_cons (pv 3) pa_nil))))
      (pss_cons (ps_set (i := 4) sc_grid_bounds.nd rfl (.inl rfl) (pe_callB (call_max2 rfl) (by rfl) T.b_max bt_max (pa_cons (pv 4) (pa_cons (pe_op op_fdiv (pe_op op_sub (pe_op op_add (pe_ix (ix_tupK (K := K) rfl) (pe_ix (ix_listK (K := K) rfl) (pv 1) (pv 6) (fun _ _ => rfl)) pe_int (fun _ _ => rfl)) (pv 7)) pe_int) (pv 7)) pa_nil))))
      (pss_one (ps_set (i := 5) sc_grid_bounds.nd rfl (.inl rfl) (pe_callB (call_max2 rfl) (by rfl) T.b_max bt_max (pa_cons (pv 5) (pa_cons (pe_op op_fdiv (pe_op op_sub (pe_op op_add (pe_ix (ix_tupK (K := K) rfl) (pe_ix (ix_listK (K := K) rfl) (pv 1) (pv 6) (fun _ _ => rfl)) pe_int (fun _ _ => rfl)) (pv 7)) pe_int) (pv 7)) pa_nil))))))))
      (pss_one (ps_ret (pe_tup (pa_cons (pe_op op_mul (pv 3) (pv 4)) (pa_cons (pe_op op_mul (pv 3) (pv 5)) pa_nil)))))))), ?_⟩)
  rintro ⟨ns, lks, bs, ks, B, c⟩ hp
  simp only [cxOf, Cx.nox, Cx.wish, Cx.blk, S_grid_bounds, N_grid_bounds, startR, PSpec.S_args, PSpec.S_mu, PSpec.S_pre, PSpec.S_post, List.map_cons, List.map_nil, List.length_cons, List.length_nil, Nat.reduceAdd, Nat.reduceSub, List.replicate_succ, List.replicate_zero, List.cons_append, List.nil_append, List.append_nil] at hp ⊢
  obtain ⟨⟨hB, hkl, hnl, hL, hbl, hk⟩, hc⟩ := hp
  simp only at hB hkl hnl hL hbl hk hc
  walk_at "go"
  refine ws_for (fun i ρ m => m = [] ∧ ∃ (a b : Int) (x6 x7 : Option SV), ρ = [some (.dat (encLk lks)), some (.dat (encP bs)), some (.dat (encN ks)), some (.dat (.int c)), some (.dat (.int a)), some (.dat (.int b)), x6, x7] ∧ 0 ≤ a ∧ a ≤ B) (wi_list ?_)
  walk_at "go"
  refine ⟨⟨rfl, _, _, _, _, rfl, by omega, by omega⟩, ?_, ?_⟩
  · rintro i dd ρ m hd ⟨rfl, a, b, x6, x7, rfl, ha1, ha2⟩
    obtain ⟨k, hkk, rfl⟩ := map_got hd
    obtain ⟨hk1, hk2⟩ := hk k (List.mem_of_getElem? hkk)
    have hb := getI (xs := bs) (i := k) (by omega)
    obtain ⟨q1, q2⟩ := hk2 _ hb
    have hsp := hL.span k hk1
    walk_at "go"
    refine lk_go (j := 8) hL.ok hk1 rfl ?_
    walk_at "go"
    obtain ⟨s, hs⟩ : ∃ s, (if c < lk lks k 8 then c else lk lks k 8) = s := ⟨_, rfl⟩
    have hs1 : 1 ≤ s ∧ s ≤ 6 := by rw [← hs]; split <;> omega
    rw [hs]
    refine wr_ixL isl_d (at_m hb) ?_
    walk_at "go"
    refine wr_fdiv ⟨by omega, by omega⟩ ?_
    walk_at "go"
    refine wr_ixL isl_d (at_m hb) ?_
    walk_at "go"
    refine wr_fdiv ⟨by omega, by omega⟩ ?_
    walk_at "go"
    have := cdiv_le hs1 q1 q2
    exact ⟨rfl, _, _, _, _, rfl, by split <;> omega, by split <;> omega⟩
  · rintro ρ m ⟨rfl, a, b, x6, x7, rfl, ha1, ha2⟩
    walk_at "go"
    refine wr_mul (.inl ⟨by omega, by omega⟩) ?_
    walk_at "go"
    refine wr_mul (.inl ⟨by omega, by omega⟩) ?_
    walk_at "go"
    have := col_le hc ha1 ha2
    exact ⟨rfl, _, rfl, _, _, rfl, this.1, this.2⟩
end
end LP
end

section
set_option maxHeartbeats 4000000
/-! G5b: books that are well made; the bounds of all nodes. -/
namespace LP
open PySem PySem.Spec PyProof.Rows L2
/-- a book that is well made; lv: how deep a node lies -/
structure Bk (ns : List Nd) (lv : Nat → Nat) : Prop where
  len : ns.length ≤ 1000
  pos : 0 < ns.length
  root : ∀ n, ns[0]? = some n → n.kd = .body ∧ n.el = -1
  eld : ∀ (i : Nat) n, 0 < i → ns[i]? = some n → ∃ (e : Nat) (m : Nd), n.el = (e : Int) ∧ e < i ∧ ns[e]? = some m ∧ lv i = lv e + 1 ∧ n.kd ≠ .body ∧ m.kd ≠ .note ∧ m.kd ≠ .picture ∧ (n.kd = .note ↔ (m.kd = .text ∨ m.kd = .head)) ∧ (n.kd = .aside → m.kd ≠ .shelf ∧ m.kd ≠ .grid)
  lev : ∀ (i : Nat) n, ns[i]? = some n → n.kd.cont = true → lv i ≤ 3
  full : ∀ (i : Nat) n, ns[i]? = some n → n.kd = .shelf ∨ n.kd = .grid → hold ns i ≠ []
  pic : ∀ (i : Nat) n, ns[i]? = some n → n.kd = .picture → ∃ a b : Int, n.st = .lst [.int a, .int b] ∧ 1 ≤ a ∧ a ≤ 60 ∧ 1 ≤ b ∧ b ≤ 60
  pie : PieOk ns
  asd : ∀ (i : Nat) n, ns[i]? = some n → n.kd = .aside → ∃ (j : Nat) (m : Nd), ns[j]? = some m ∧ m.kd = .text ∧ m.el = n.el ∧ i < j ∧ ∀ (k : Nat) (m' : Nd), i < k → k < j → ns[k]? = some m' → m'.el ≠ n.el
theorem mem_hold2 {ns : List Nd} {i j : Nat} : j ∈ hold ns i ↔ i < j ∧ ∃ m, ns[j]? = some m ∧ m.el = (i : Int) := by
  rw [mem_hold, List.getElem?_map]
  constructor
  · rintro ⟨h1, h2, h3⟩
    have := getI h1
    rw [this] at h3
    exact ⟨h2, _, this, Option.some.inj h3⟩
  · rintro ⟨h1, m, h2, h3⟩
    exact ⟨(List.getElem?_eq_some_iff.mp h2).1, h1, by rw [h2]; exact congrArg some h3⟩
theorem hold_len {ns : List Nd} {i : Nat} : (hold ns i).length ≤ ns.length := by
  unfold hold
  have := List.length_filter_le (fun j => decide (i < j) && decide ((ns.map Nd.el)[j]? = some (i : Int))) (List.range ns.length)
  rwa [List.length_range] at this
theorem Bk.kid {ns : List Nd} {lv : Nat → Nat} (b : Bk ns lv) {i j : Nat} {n : Nd} (hn : ns[i]? = some n) (h : j ∈ hold ns i) : ∃ m, ns[j]? = some m ∧ i < j ∧ j < ns.length ∧ m.el = (i : Int) ∧ lv j = lv i + 1 ∧ m.kd ≠ .body ∧ n.kd ≠ .note ∧ n.kd ≠ .picture ∧ (m.kd = .note ↔ (n.kd = .text ∨ n.kd = .head)) ∧ (m.kd = .aside → n.kd ≠ .shelf ∧ n.kd ≠ .grid) := by
  obtain ⟨h1, m, h2, h3⟩ := mem_hold2.mp h
  obtain ⟨e, m', a1, a2, a3, a4, a5, a6, a7, a8, a9⟩ := b.eld j m (by omega) h2
  have : e = i := by omega
  subst this
  rw [hn] at a3; cases a3
  exact ⟨m, h2, h1, (List.getElem?_eq_some_iff.mp h2).1, h3, a4, a5, a6, a7, a8, a9⟩
theorem ixN_n {n j : Nat} (hj : j < n) : ixN n (j : Int) = some j := by
  unfold ixN
  rw [if_pos (by omega), if_pos (by omega)]
  simp
/-- how much a node may need at least -/
def LB (ns : List Nd) (lv : Nat → Nat) (i : Nat) : Int := match ns[i]? with
  | some n => if n.kd.cont = true then 200000 * (2000 ^ (4 - lv i) : Nat) else 200000
  | none => 0
theorem pw_pos (k : Nat) : (1 : Int) ≤ ((2000 ^ k : Nat) : Int) := by
  have : 0 < 2000 ^ k := Nat.pow_pos (by omega)
  omega
theorem LB_nonneg (ns : List Nd) (lv : Nat → Nat) (i : Nat) : 0 ≤ LB ns lv i := by
  unfold LB
  split
  · split
    · have := pw_pos (4 - lv i); omega
    · omega
  · omega
theorem LB_kid {ns : List Nd} {lv : Nat → Nat} (b : Bk ns lv) {i j : Nat} {n : Nd} (hn : ns[i]? = some n) (hc : n.kd.cont = true) (h : j ∈ hold ns i) : LB ns lv j ≤ 200000 * ((2000 ^ (3 - lv i) : Nat) : Int) := by
  obtain ⟨m, hm, _, _, _, hl, _⟩ := b.kid hn h
  have h3 := b.lev i n hn hc
  unfold LB
  rw [hm]
  have := pw_pos (3 - lv i)
  show (if m.kd.cont = true then _ else _) ≤ _
  split
  · rw [hl, show 4 - (lv i + 1) = 3 - lv i by omega]; omega
  · omega
theorem LB_cont {ns : List Nd} {lv : Nat → Nat} (b : Bk ns lv) {i : Nat} {n : Nd} (hn : ns[i]? = some n) (hc : n.kd.cont = true) : LB ns lv i = 2000 * (200000 * ((2000 ^ (3 - lv i) : Nat) : Int)) := by
  have h3 := b.lev i n hn hc
  unfold LB
  rw [hn]
  show (if n.kd.cont = true then _ else _) = _
  rw [if_pos hc, show 4 - lv i = (3 - lv i) + 1 by omega, Nat.pow_succ, Int.natCast_mul]
  omega
/-- the units of all nodes -/
def UUOk (ns : List Nd) (uus : List (List Un)) : Prop := uus.length = ns.length ∧ ∀ (i : Nat) us n, uus[i]? = some us → ns[i]? = some n → n.kd.wu = true → us ≠ [] ∧ Good2 us
structure IBg where
  ns : List Nd
  lks : List (List Int)
  uus : List (List Un)
  bs : List (Int × Int)
  i : Nat
  lv : Nat → Nat
  B : Int
def IBok (x : IBg) : Prop := Bk x.ns x.lv ∧ LkR x.lks x.ns.length ∧ UUOk x.ns x.uus ∧ x.bs.length = x.ns.length ∧ x.i < x.ns.length ∧ 200 ≤ x.B ∧ ∀ n, x.ns[x.i]? = some n → n.kd.cont = true → ∀ k ∈ hold x.ns x.i, ∀ p, x.bs[k]? = some p → 0 ≤ p.1 ∧ p.1 ≤ x.B
section
variable {P : Program} {w : World} {K : PySem.W.Frag} {mg : Str → Option Value} {base : Heap}
def S_inner_bounds : PSpec IBg := ⟨fun x => [encB x.ns, encLk x.lks, encUU x.uus, encP x.bs, .int (x.i : Int)], fun x => IBok x ∧ ∀ n, x.ns[x.i]? = some n → n.kd ≠ .picture,
  fun x d => ∃ a b, d = pr (a, b) ∧ 0 ≤ a ∧ ∀ n, x.ns[x.i]? = some n → (n.kd.wu = true → a ≤ 100000) ∧ (n.kd.cont = true → a ≤ 1000 * x.B)⟩
theorem ok_inner_bounds (T : Top K mg) : Has P w K mg base 5 "inner_bounds" ["book", "looks", "units", "bounds", "node"] (spG K S_inner_bounds.S) := by
  have h_units_bounds := ok_units_bounds (P := P) (w := w) (K := K) (base := base) T
  have h_holds := ok_holds (P := P) (w := w) (K := K) (base := base) T
  have h_shelf_bounds := ok_shelf_bounds (P := P) (w := w) (K := K) (base := base) T
  have h_grid_bounds := ok_grid_bounds (P := P) (w := w) (K := K) (base := base) T
  have h_look_at := ok_look_at (P := P) (w := w) (K := K) (base := base) T
  have h_column_bounds := ok_column_bounds (P := P) (w := w) (K := K) (base := base) T
  obtain ⟨u_WITH_UNITS, m_WITH_UNITS, r_WITH_UNITS, k_WITH_UNITS⟩ := T.c_WITH_UNITS
  refine has_ok T.d_inner_bounds sc_inner_bounds (fun _ => rfl) (fun _ _ _ _ _ _ us hl => match us, hl with | [_, _, _, _, _], _ => rfl) (fun f cdv A outer s H E hr => ⟨_, (pss_cons (ps_set (i := 5) sc_inner_bounds.nd rfl (.inl rfl) (pe_ix (ix_tupK (K := K) rfl) (pe_ix (ix_listK (K := K) rfl) (pv 0) (pv 4) (fun _ _ => rfl)) pe_int (fun _ _ => rfl)))
      (pss_cons (ps_if (pt_cmpR (op_inK (K := K) rfl) (pv 5) (pe_glob (by rfl) m_WITH_UNITS r_WITH_UNITS) (by rfl)) (pss_one (ps_ret (pe_has h_units_bounds hr (by omega) (by rfl) (pa_cons (pe_ix (ix_listK (K := K) rfl) (pv 2) (pv 4) (fun _ _ => rfl)) pa_nil)))) pss_nil)
      (pss_cons (ps_set (i := 6) sc_inner_bounds.nd rfl (.inl rfl) (pe_has h_holds hr (by omega) (by rfl) (pa_cons (pv 0) (pa_cons (pv 4) pa_nil))))
      (pss_cons (ps_if (pt_cmpR op_eq (pv 5) pe_str (nomark _)) (pss_one (ps_ret (pe_has h_shelf_bounds hr (by omega) (by rfl) (pa_cons (pv 1) (pa_cons (pv 3) (pa_cons (pv 6) pa_nil)))))) pss_nil)
      (pss_cons (ps_if (pt_cmpR op_eq (pv 5) pe_str (nomark _)) (pss_one (ps_ret (pe_has h_grid_bounds hr (by omega) (by rfl) (pa_cons (pv 1) (pa_cons (pv 3) (pa_cons (pv 6) (pa_cons (pe_has h_look_at hr (by omega) (by rfl) (pa_cons (pv 1) (pa_cons (pv 4) (pa_cons pe_str pa_nil)))) pa_nil))))))) pss_nil)
      (pss_one (ps_ret (pe_has h_column_bounds hr (by omega) (by rfl) (pa_cons (pv 0) (pa_cons (pv 1) (pa_cons (pv 3) (pa_cons (pv 6) pa_nil)))))))))))), ?_⟩)
  rintro ⟨ns, lks, uus, bs, i, lv, B⟩ hp
  simp only [cxOf, Cx.nox, Cx.wish, Cx.blk, S_inner_bounds, N_inner_bounds, startR, PSpec.S_args, PSpec.S_mu, PSpec.S_pre, PSpec.S_post, List.map_cons, List.map_nil, List.length_cons, List.length_nil, Nat.reduceAdd, Nat.reduceSub, List.replicate_succ, List.replicate_zero, List.cons_append, List.nil_append, List.append_nil] at hp ⊢
  obtain ⟨⟨hb, hL, hU, hbl, hi, hB, hk⟩, hpic⟩ := hp
  simp only at hb hL hU hbl hi hB hk hpic
  have hn := getI hi
  obtain ⟨n, hnn⟩ : ∃ n, ns[i] = n := ⟨_, rfl⟩
  rw [hnn] at hn
  have hnl := hb.len
  have hu := getI (xs := uus) (i := i) (by rw [hU.1]; exact hi)
  walk_at "go"
  refine wr_ixL isl_d (at_m hn) ?_
  walk_at "go"
  refine wr_inK ?_
  rw [kd_wu]
  walk_at "go"
  cases hw : n.kd.wu with
  | true =>
    refine ift ?_
    obtain ⟨u1, u2⟩ := hU.2 i _ n hu hn hw
    walk_at "go"
    refine wr_ixL isl_d (at_m hu) ?_
    walk_at "go"
    refine ⟨uus[i]'(by rw [hU.1]; exact hi), rfl, ⟨u1, u2.1.1, fun u h => by have := u2.1.2 u h; omega⟩, fun d hd => ?_⟩
    obtain ⟨a, b, rfl, h1, h2⟩ := hd
    walk_at "go"
    refine ⟨rfl, _, rfl, a, b, rfl, h1, fun n' h => ?_⟩
    rw [hn] at h; cases h
    exact ⟨fun _ => h2, fun h => by rw [show n.kd.cont = false by cases q : n.kd <;> rw [q] at hw <;> first | rfl | cases hw] at h; cases h⟩
  | false =>
  refine iff' ?_
  have hc := kd_not hw (hpic n hn)
  have hlow : LowOk ⟨ns, lks, bs, hold ns i, B, lk lks i 7⟩ := ⟨hB, by have := hold_len (ns := ns) (i := i); show (hold ns i).length ≤ 1000; omega, hnl, hL, hbl, fun k h => ⟨(mem_hold.mp h).1, fun p hp => hk n hn hc k h p hp⟩⟩
  have fin : ∀ {a b : Int} {B' : Int}, 0 ≤ a → a ≤ B' → B' ≤ 1000 * B → ∃ a' b', pr (a, b) = pr (a', b') ∧ 0 ≤ a' ∧ ∀ n', ns[i]? = some n' → (n'.kd.wu = true → a' ≤ 100000) ∧ (n'.kd.cont = true → a' ≤ 1000 * B) := fun {a b B'} h1 h2 h3 => ⟨a, b, rfl, h1, fun n' h => by
    rw [hn] at h; cases h
    exact ⟨fun z => (by rw [hw] at z; cases z), fun _ => (by omega)⟩⟩
  walk_at "go"
  refine ⟨(ns, i), rfl, ⟨hi, hnl⟩, fun d hd => ?_⟩
  simp only [S_holds] at hd
  subst hd
  walk_at "go"
  refine ifd (fun _ => ?_) (fun _ => ?_)
  · walk_at "go"
    refine ⟨⟨ns, lks, bs, hold ns i, B, lk lks i 7⟩, rfl, hlow, fun d hd => ?_⟩
    obtain ⟨a, b, rfl, h1, h2⟩ := hd
    walk_at "go"
    exact ⟨rfl, _, rfl, fin h1 h2 (Int.mul_le_mul_of_nonneg_right (by show ((hold ns i).length : Int) ≤ 1000; have := hlow.2.1; simp only at this; omega) (by show (0 : Int) ≤ B; omega))⟩
  · walk_at "go"
    refine ifd (fun _ => ?_) (fun _ => ?_)
    · walk_at "go"
      refine lk_go (j := 7) hL.ok hi rfl ?_
      walk_at "go"
      refine ⟨⟨ns, lks, bs, hold ns i, B, lk lks i 7⟩, rfl, ⟨hlow, hL.columns i hi⟩, fun d hd => ?_⟩
      obtain ⟨a, b, rfl, h1, h2⟩ := hd
      walk_at "go"
      exact ⟨rfl, _, rfl, fin h1 h2 (by show 6 * B ≤ 1000 * B; omega)⟩
    · walk_at "go"
      refine ⟨⟨ns, lks, bs, hold ns i, B, lk lks i 7⟩, rfl, hlow, fun d hd => ?_⟩
      obtain ⟨a, b, rfl, h1, h2⟩ := hd
      walk_at "go"
      exact ⟨rfl, _, rfl, fin h1 h2 (by show B ≤ 1000 * B; omega)⟩

def S_node_bounds : PSpec IBg := ⟨fun x => [encB x.ns, encLk x.lks, encUU x.uus, encP x.bs, .int (x.i : Int)], IBok,
  fun x d => ∃ a b, d = pr (a, b) ∧ 0 ≤ a ∧ ∀ n, x.ns[x.i]? = some n → (n.kd.cont = false → a ≤ 200000) ∧ (n.kd.cont = true → a ≤ 2000 * x.B)⟩
theorem okS_node_bounds (T : Top K mg) : Has P w K mg base 6 "node_bounds" ["book", "looks", "units", "bounds", "node"] (spG K S_node_bounds.S) := by
  have h_inner_bounds := ok_inner_bounds (P := P) (w := w) (K := K) (base := base) T
  have h_look_at := ok_look_at (P := P) (w := w) (K := K) (base := base) T
  refine has_ok T.d_node_bounds sc_node_bounds (fun _ => rfl) (fun _ _ _ _ _ _ us hl => match us, hl with | [_, _, _, _, _], _ => rfl) (fun f cdv A outer s H E hr => ⟨_, (pss_cons (ps_if (pt_cmpR op_eq (pe_ix (ix_tupK (K := K) rfl) (pe_ix (ix_listK (K := K) rfl) (pv 0) (pv 4) (fun _ _ => rfl)) pe_int (fun _ _ => rfl)) pe_str (nomark _)) (pss_one (ps_ret (pe_tup (pa_cons (pe_ix (ix_listK (K := K) rfl) (pe_ix (ix_tupK (K := K) rfl) (pe_ix (ix_listK (K := K) rfl) (pv 0) (pv 4) (fun _ _ => rfl)) pe_int (fun _ _ => rfl)) pe_int (fun _ _ => rfl)) (pa_cons (pe_ix (ix_listK (K := K) rfl) (pe_ix (ix_tupK (K := K) rfl) (pe_ix (ix_listK (K := K) rfl) (pv 0) (pv 4) (fun _ _ => rfl)) pe_int (fun _ _ => rfl)) pe_int (fun _ _ => rfl)) pa_nil))))) pss_nil)
      (pss_cons (ps_asg (pe_has h_inner_bounds hr (by omega) (by rfl) (pa_cons (pv 0) (pa_cons (pv 1) (pa_cons (pv 2) (pa_cons (pv 3) (pa_cons (pv 4) pa_nil)))))) (pg_tupK (K := K) rfl rfl (pgs_cons (pg_name (i := 5) sc_node_bounds.nd rfl (.inl rfl)) (pgs_cons (pg_name (i := 6) sc_node_bounds.nd rfl (.inl rfl)) pgs_nil))))
      (pss_cons (ps_set (i := 7) sc_node_bounds.nd rfl (.inl rfl) (pe_op op_mul pe_int (pe_has h_look_at hr (by omega) (by rfl) (pa_cons (pv 1) (pa_cons (pv 4) (pa_cons pe_str pa_nil))))))
      (pss_one (ps_ret (pe_tup (pa_cons (pe_op op_add (pv 5) (pv 7)) (pa_cons (pe_op op_add (pv 6) (pv 7)) pa_nil)))))))), ?_⟩)
  rintro ⟨ns, lks, uus, bs, i, lv, B⟩ hp
  simp only [cxOf, Cx.nox, Cx.wish, Cx.blk, S_node_bounds, N_node_bounds, startR, PSpec.S_args, PSpec.S_mu, PSpec.S_pre, PSpec.S_post, List.map_cons, List.map_nil, List.length_cons, List.length_nil, Nat.reduceAdd, Nat.reduceSub, List.replicate_succ, List.replicate_zero, List.cons_append, List.nil_append, List.append_nil] at hp ⊢
  obtain ⟨hb, hL, hU, hbl, hi, hB, hk⟩ := id hp
  simp only at hb hL hU hbl hi hB hk
  have hn := getI hi
  obtain ⟨n, hnn⟩ : ∃ n, ns[i] = n := ⟨_, rfl⟩
  rw [hnn] at hn
  have hin := hL.inset i hi
  walk_at "go"
  refine wr_ixL isl_d (at_m hn) ?_
  walk_at "go"
  refine ifd (fun h => ?_) (fun h => ?_)
  · have hkd : n.kd = .picture := Kd.inj (b := .picture) h
    obtain ⟨a, b, hst, h1, h2, h3, h4⟩ := hb.pic i n hn hkd
    walk_at "go"
    refine wr_ixL isl_d (at_m hn) ?_
    walk_at "go"
    rw [hst]
    refine wr_ixL isl_d (d := .int a) rfl ?_
    walk_at "go"
    refine wr_ixL isl_d (at_m hn) ?_
    walk_at "go"
    rw [hst]
    refine wr_ixL isl_d (d := .int a) rfl ?_
    walk_at "go"
    refine ⟨rfl, _, rfl, a, a, rfl, by omega, fun n' h => ?_⟩
    rw [hn] at h; cases h
    exact ⟨fun _ => (by omega), fun z => (by rw [hkd] at z; cases z)⟩
  · have hkd : n.kd ≠ .picture := fun e => h (by rw [e]; rfl)
    walk_at "go"
    refine ⟨⟨ns, lks, uus, bs, i, lv, B⟩, rfl, ⟨hp, fun n' h => by rw [hn] at h; cases h; exact hkd⟩, fun d hd => ?_⟩
    obtain ⟨a, b, rfl, h1, h2⟩ := hd
    walk_at "go"
    refine lk_go (j := 3) hL.ok hi rfl ?_
    walk_at "go"
    refine wr_mul (.inl ⟨by omega, by omega⟩) ?_
    walk_at "go"
    refine ⟨rfl, _, rfl, _, _, rfl, by omega, fun n' h => ?_⟩
    rw [hn] at h; cases h
    obtain ⟨q1, q2⟩ := h2 n hn
    refine ⟨fun z => ?_, fun z => by have := q2 z; simp only at this; omega⟩
    have hw : n.kd.wu = true := by
      cases q : n.kd.wu with
      | true => rfl
      | false => rw [kd_not q hkd] at z; cases z
    have := q1 hw; omega
theorem ok_node_bounds (T : Top K mg) : Has P w K mg base 6 "node_bounds" ["book", "looks", "units", "bounds", "node"] (spG K S_node_bounds.L) := okS_node_bounds T

structure ABg where
  ns : List Nd
  lks : List (List Int)
  uus : List (List Un)
  lv : Nat → Nat
def BsOk (ns : List Nd) (lv : Nat → Nat) (bs : List (Int × Int)) : Prop := bs.length = ns.length ∧ ∀ (k : Nat) p, bs[k]? = some p → 0 ≤ p.1 ∧ p.1 ≤ LB ns lv k
def S_all_bounds : PSpec ABg := ⟨fun x => [encB x.ns, encLk x.lks, encUU x.uus], fun x => Bk x.ns x.lv ∧ LkR x.lks x.ns.length ∧ UUOk x.ns x.uus,
  fun x d => ∃ bs, d = encP bs ∧ BsOk x.ns x.lv bs⟩
theorem ok_all_bounds (T : Top K mg) : Has P w K mg base 7 "all_bounds" ["book", "looks", "units"] (spG K S_all_bounds.S) := by
  have h_node_bounds := ok_node_bounds (P := P) (w := w) (K := K) (base := base) T
  refine has_ok T.d_all_bounds sc_all_bounds (fun _ => rfl) (fun _ _ _ _ _ _ us hl => match us, hl with | [_, _, _], _ => rfl) (fun f cdv A outer s H E hr => ⟨_, (pss_cons (ps_set (i := 3) sc_all_bounds.nd rfl (.inl rfl) (pe_op op_rep (pe_lst (pa_cons (pe_tup (pa_cons pe_int (pa_cons pe_int pa_nil))) pa_nil)) (pe_callB (call_lenK (K := K) rfl) (by rfl) T.b_len bt_len (pa_cons (pv 0) pa_nil))))
      (pss_cons (ps_for PassesOwn.never rfl (pi_revR (by rfl) T.b_reversed (prg_1 (by rfl) T.b_range (pe_callB (call_lenK (K := K) rfl) (by rfl) T.b_len bt_len (pa_cons (pv 0) pa_nil)))) (pg_name (i := 4) sc_all_bounds.nd rfl (.inl rfl)) (pss_one (ps_asg (pe_has h_node_bounds hr (by omega) (by rfl) (pa_cons (pv 0) (pa_cons (pv 1) (pa_cons (pv 2) (pa_cons (pv 3) (pa_cons (pv 4) pa_nil)))))) (pg_sub (pv 3) (pv 4) set_list))))
      (pss_one (ps_ret (pv 3))))), ?_⟩)
  rintro ⟨ns, lks, uus, lv⟩ hp
  simp only [cxOf, Cx.nox, Cx.wish, Cx.blk, S_all_bounds, N_all_bounds, startR, PSpec.S_args, PSpec.S_mu, PSpec.S_pre, PSpec.S_post, List.map_cons, List.map_nil, List.length_cons, List.length_nil, Nat.reduceAdd, Nat.reduceSub, List.replicate_succ, List.replicate_zero, List.cons_append, List.nil_append, List.append_nil] at hp ⊢
  obtain ⟨hb, hL, hU⟩ := hp
  have hnl := hb.len
  walk_at "go"
  refine we_lst1 ?_
  walk_at "go"
  refine wr_repM (n := (ns.map Nd.enc).length) isl_d (by rw [List.length_map]; omega) ?_
  walk_at "go"
  refine ws_for (fun i ρ m => ∃ (bs : List (Int × Int)) (x4 : Option SV), ρ = [some (.dat (encB ns)), some (.dat (encLk lks)), some (.dat (encUU uus)), some (.ob 0), x4] ∧ m = [.lst (bs.map pr)] ∧ BsOk ns lv bs) (wi_rev1 ?_)
  walk_at "go"
  refine ⟨_, rfl, by rw [List.length_map]; omega, ⟨List.replicate ns.length (0, 0), _, rfl, by rw [List.length_map, List.map_replicate], by simp, fun k p h => ?_⟩, ?_, ?_⟩
  · rw [List.getElem?_replicate] at h
    split at h
    · cases h; exact ⟨by omega, LB_nonneg ns lv k⟩
    · cases h
  · rintro j dd ρ m hd ⟨bs, x4, rfl, rfl, hbl, hbs⟩
    obtain ⟨hj, rfl⟩ := dwnD_get hd
    rw [List.length_map] at hj
    obtain ⟨i, hi⟩ : ∃ i, ns.length - 1 - j = i := ⟨_, rfl⟩
    have hi2 : i < ns.length := by omega
    rw [show ((ns.map Nd.enc).length : Int) - 1 - (j : Nat) = (i : Int) by rw [List.length_map]; omega]
    have hn := getI hi2
    walk_at "go"
    refine we_callL ?_
    walk_at "go"
    have hpB := pw_pos (3 - lv i)
    refine ⟨⟨ns, lks, uus, bs, i, lv, 200000 * ((2000 ^ (3 - lv i) : Nat) : Int)⟩, rfl, ⟨hb, hL, hU, hbl, hi2, by show (200 : Int) ≤ 200000 * ((2000 ^ (3 - lv i) : Nat) : Int); omega, fun n hn hc k hk p hp => ?_⟩, fun d hd => ?_⟩
    · have h1 := hbs k p hp
      have h2 := LB_kid hb hn hc hk
      exact ⟨h1.1, Int.le_trans h1.2 h2⟩
    obtain ⟨a, b, rfl, h1, h2⟩ := hd
    refine ⟨rfl, ?_⟩
    refine wg_sub ?_
    walk_at "go"
    refine ⟨0, _, _, i, rfl, rfl, rfl, ?_, ?_⟩
    · rw [List.length_map, hbl]
      exact ixN_n hi2
    · refine ⟨bs.set i (a, b), _, rfl, ?_, by rw [List.length_set]; exact hbl, fun k p h => ?_⟩
      · rw [List.map_set]; rfl
      · by_cases e : k = i
        · subst e
          rw [List.getElem?_set_self (by omega)] at h
          cases h
          refine ⟨h1, ?_⟩
          obtain ⟨q1, q2⟩ := h2 _ hn
          cases hc : (ns[k]'hi2).kd.cont with
          | true => rw [LB_cont hb hn hc]; exact q2 hc
          | false =>
            have := q1 hc
            unfold LB
            rw [hn]
            show a ≤ if (ns[k]'hi2).kd.cont = true then _ else _
            rw [if_neg (by rw [hc]; decide)]
            exact this
        · rw [List.getElem?_set_ne (fun z => e z.symm)] at h
          exact hbs k p h
  · rintro ρ m ⟨bs, x4, rfl, rfl, hbs⟩
    walk_at "go"
    exact ret_m (Nat.zero_le _) rfl ⟨rfl, _, rfl, bs, rfl, hbs⟩
end
end LP
end

section
set_option maxHeartbeats 4000000
/-! G6: shares. -/
namespace LP
open PySem PySem.Spec PyProof.Rows L2
theorem ixN_n2 {n j : Nat} (hj : j < n) : ixN n (j : Int) = some j := by
  unfold ixN
  rw [if_pos (by omega), if_pos (by omega)]
  simp
section
variable {P : Program} {w : World} {K : PySem.W.Frag} {mg : Str → Option Value} {base : Heap}
structure NPg where
  have' : List Int
  roofs : List Int
  ws : List Int
def NPok (x : NPg) : Prop := x.have'.length = x.roofs.length ∧ x.have'.length = x.ws.length ∧ x.have'.length ≤ 1000 ∧ ∀ v ∈ x.ws, 1 ≤ v ∧ v ≤ 9
def S_next_place : PSpec NPg := ⟨fun x => [encI x.have', encI x.roofs, encI x.ws], NPok, fun x d => d = .non ∨ ∃ j : Nat, d = .int (j : Int) ∧ j < x.have'.length⟩
theorem okS_next_place (T : Top K mg) : Has P w K mg base 1 "next_place" ["have", "roofs", "weights"] (spG K S_next_place.S) := by
  refine has_ok T.d_next_place sc_next_place (fun _ => rfl) (fun _ _ _ _ _ _ us hl => match us, hl with | [_, _, _], _ => rfl) (fun f cdv A outer s H E hr => ⟨_, (pss_cons (ps_set (i := 3) sc_next_place.nd rfl (.inl rfl) pe_non)
      (pss_cons (ps_for PassesOwn.never rfl (pi_enumK (K := K) rfl (by rfl) T.b_enumerate (pa_cons (pv 0) pa_nil)) (pg_tupK (K := K) rfl rfl (pgs_cons (pg_name (i := 4) sc_next_place.nd rfl (.inl rfl)) (pgs_cons (pg_name (i := 5) sc_next_place.nd rfl (.inl rfl)) pgs_nil))) (pss_one (ps_if (pt_cmpR op_lt (pv 5) (pe_ix (ix_listK (K := K) rfl) (pv 1) (pv 4) (fun _ _ => rfl)) (nomark _)) (pss_one (ps_if (PW.pt (pw_or (pt_cmpR op_isN (pv 3) pe_non (nomark _)) (pw_or1 (pt_cmpR op_lt (pe_op op_mul (pv 5) (pe_ix (ix_listK (K := K) rfl) (pv 2) (pv 3) (fun _ _ => rfl))) (pe_op op_mul (pe_ix (ix_listK (K := K) rfl) (pv 0) (pv 3) (fun _ _ => rfl)) (pe_ix (ix_listK (K := K) rfl) (pv 2) (pv 4) (fun _ _ => rfl))) (nomark _))))) (pss_one (ps_set (i := 3) sc_next_place.nd rfl (.inl rfl) (pv 4))) pss_nil)) pss_nil)))
      (pss_one (ps_ret (pv 3))))), ?_⟩)
  rintro ⟨hv, rf, ws⟩ hp
  simp only [cxOf, Cx.nox, Cx.wish, Cx.blk, S_next_place, N_next_place, startR, PSpec.S_args, PSpec.S_mu, PSpec.S_pre, PSpec.S_post, List.map_cons, List.map_nil, List.length_cons, List.length_nil, Nat.reduceAdd, Nat.reduceSub, List.replicate_succ, List.replicate_zero, List.cons_append, List.nil_append, List.append_nil] at hp ⊢
  obtain ⟨h1, h2, h3, h4⟩ := hp
  simp only at h1 h2 h3 h4
  walk_at "go"
  refine ws_for (fun i ρ m => m = [] ∧ ∃ (x4 x5 : Option SV), ρ = [some (.dat (encI hv)), some (.dat (encI rf)), some (.dat (encI ws)), some (.dat .non), x4, x5] ∨ ∃ j : Nat, ρ = [some (.dat (encI hv)), some (.dat (encI rf)), some (.dat (encI ws)), some (.dat (.int (j : Int))), x4, x5] ∧ j < hv.length) (wi_enum ?_)
  walk_at "go"
  refine ⟨_, rfl, ⟨rfl, none, none, .inl rfl⟩, ?_, ?_⟩
  · rintro i dd ρ m hd ⟨rfl, x4, x5, hI⟩
    obtain ⟨x, hx, rfl⟩ := enmD_get hd
    obtain ⟨v, hv', rfl⟩ := map_got hx
    have hi : i < hv.length := (List.getElem?_eq_some_iff.mp hv').1
    have hr := getI (xs := rf) (i := i) (by omega)
    have hw := getI (xs := ws) (i := i) (by omega)
    obtain ⟨w1, w2⟩ := h4 _ (List.mem_of_getElem? hw)
    rcases hI with rfl | ⟨j, rfl, hj⟩
    · walk_at "go"
      refine wr_ixL isl_d (at_m hr) ?_
      walk_at "go"
      refine ifd (fun _ => ?_) (fun _ => ?_)
      · walk_at "go"
        exact ⟨rfl, _, _, .inr ⟨i, rfl, hi⟩⟩
      · walk_at "go"
        exact ⟨rfl, _, _, .inl rfl⟩
    · have hwj := getI (xs := ws) (i := j) (by omega)
      have hhj := getI hj
      obtain ⟨w3, w4⟩ := h4 _ (List.mem_of_getElem? hwj)
      walk_at "go"
      refine wr_ixL isl_d (at_m hr) ?_
      walk_at "go"
      refine ifd (fun _ => ?_) (fun _ => ?_)
      · walk_at "go"
        refine wr_ixL isl_d (at_m hwj) ?_
        refine wr_mul (.inr ⟨by omega, by omega⟩) ?_
        walk_at "go"
        refine wr_ixL isl_d (at_m hhj) ?_
        walk_at "go"
        refine wr_ixL isl_d (at_m hw) ?_
        refine wr_mul (.inr ⟨by omega, by omega⟩) ?_
        walk_at "go"
        refine ifd (fun _ => ?_) (fun _ => ?_)
        · walk_at "go"
          exact ⟨rfl, _, _, .inr ⟨i, rfl, hi⟩⟩
        · walk_at "go"
          exact ⟨rfl, _, _, .inr ⟨j, rfl, hj⟩⟩
      · walk_at "go"
        exact ⟨rfl, _, _, .inr ⟨j, rfl, hj⟩⟩
  · rintro ρ m ⟨rfl, x4, x5, rfl | ⟨j, rfl, hj⟩⟩
    · walk_at "go"
      exact ⟨rfl, _, rfl, .inl rfl⟩
    · walk_at "go"
      exact ⟨rfl, _, rfl, .inr ⟨j, rfl, hj⟩⟩
theorem ok_next_place (T : Top K mg) : Has P w K mg base 1 "next_place" ["have", "roofs", "weights"] (spG K S_next_place.L) := okS_next_place T

structure SHg where
  w : Int
  fl : List Int
  rf : List Int
  ws : List Int
def S_shares : PSpec SHg := ⟨fun x => [.int x.w, encI x.fl, encI x.rf, encI x.ws], fun x => (0 ≤ x.w ∧ x.w ≤ 1000000000000000) ∧ NPok ⟨x.fl, x.rf, x.ws⟩ ∧ (∀ v ∈ x.fl, 0 ≤ v) ∧ x.fl.sum ≤ 100000000000000000,
  fun x d => ∃ hs : List Int, d = encI hs ∧ hs.length = x.fl.length ∧ (∀ v ∈ hs, 0 ≤ v) ∧ (hs.sum ≤ x.w ∨ hs.sum ≤ x.fl.sum)⟩
theorem set_inc {hs : List Int} {j : Nat} {a : Int} (h : hs[j]? = some a) : (hs.set j (a + 1)).sum = hs.sum + 1 := by
  induction hs generalizing j with
  | nil => simp at h
  | cons x r ih =>
    cases j with
    | zero => simp at h; subst h; simp; omega
    | succ j =>
      rw [List.getElem?_cons_succ] at h
      rw [List.set_cons_succ, List.sum_cons, List.sum_cons, ih h]; omega
theorem sum_nn : ∀ {ns : List Int}, (∀ n ∈ ns, 0 ≤ n) → 0 ≤ ns.sum
  | [], _ => by simp
  | n :: r, h => by
    have h1 := sum_nn fun x hx => h x (List.mem_cons_of_mem _ hx)
    have h2 := h n List.mem_cons_self
    rw [List.sum_cons]; omega
theorem ok_shares (T : Top K mg) : Has P w K mg base 2 "shares" ["width", "floors", "roofs", "weights"] (spG K S_shares.S) := by
  have h_next_place := ok_next_place (P := P) (w := w) (K := K) (base := base) T
  refine has_ok T.d_shares sc_shares (fun _ => rfl) (fun _ _ _ _ _ _ us hl => match us, hl with | [_, _, _, _], _ => rfl) (fun f cdv A outer s H E hr => ⟨_, (pss_cons (ps_set (i := 4) sc_shares.nd rfl (.inl rfl) (pe_callTy (call_listK (K := K) rfl) (by rfl) T.b_list bt_list (pa_cons (pv 1) pa_nil)))
      (pss_cons (ps_for PassesOwn.never rfl (pi_range1 (by rfl) T.b_range (pa_cons (pe_op op_sub (pv 0) (pe_callB (cr_sumK (K := K) rfl rfl) (by rfl) T.b_sum bt_sum (pa_cons (pv 1) pa_nil))) pa_nil)) (pg_name (i := 5) sc_shares.nd rfl (.inl rfl)) (pss_cons (ps_set (i := 6) sc_shares.nd rfl (.inl rfl) (pe_has h_next_place hr (by omega) (by rfl) (pa_cons (pv 4) (pa_cons (pv 2) (pa_cons (pv 3) pa_nil)))))
      (pss_cons (ps_if (pt_cmpR op_isN (pv 6) pe_non (nomark _)) (pss_one (ps_ret (pv 4))) pss_nil)
      (pss_one (ps_augS (pv 4) (pv 6) pget_list pe_int ip_add set_list)))))
      (pss_one (ps_ret (pv 4))))), ?_⟩)
  rintro ⟨wd, fl, rf, ws⟩ hp
  simp only [cxOf, Cx.nox, Cx.wish, Cx.blk, S_shares, N_shares, startR, PSpec.S_args, PSpec.S_mu, PSpec.S_pre, PSpec.S_post, List.map_cons, List.map_nil, List.length_cons, List.length_nil, Nat.reduceAdd, Nat.reduceSub, List.replicate_succ, List.replicate_zero, List.cons_append, List.nil_append, List.append_nil] at hp ⊢
  obtain ⟨⟨h0, h00⟩, ⟨h1, h2, h3, h4⟩, h5, h6⟩ := hp
  simp only at h0 h00 h1 h2 h3 h4 h5 h6
  have hs0 := sum_nn h5
  walk_at "go"
  refine wc_listM isl_d ?_
  walk_at "go"
  refine ws_for (fun i ρ m => ∃ (hs : List Int) (x5 x6 : Option SV), ρ = [some (.dat (.int wd)), some (.dat (encI fl)), some (.dat (encI rf)), some (.dat (encI ws)), some (.ob 0), x5, x6] ∧ m = [.lst (hs.map D.int)] ∧ hs.length = fl.length ∧ (∀ v ∈ hs, 0 ≤ v) ∧ hs.sum ≤ fl.sum + i) (wi_r1 ?_)
  walk_at "go"
  refine wc_sum isl_d ?_
  walk_at "go"
  refine ⟨_, rfl, by omega, ⟨fl, _, _, rfl, rfl, rfl, h5, by omega⟩, ?_, ?_⟩
  · rintro i dd ρ m hd ⟨hs, x5, x6, rfl, rfl, hl, hnn, hsum⟩
    obtain ⟨hi, rfl⟩ := rngD_get hd
    walk_at "go"
    refine we_callL ?_
    walk_at "go"
    refine ⟨⟨hs, rf, ws⟩, rfl, ⟨by show hs.length = rf.length; omega, by show hs.length = ws.length; omega, by show hs.length ≤ 1000; omega, h4⟩, fun d hd => ?_⟩
    rcases hd with rfl | ⟨j, rfl, hj⟩
    · refine ⟨rfl, ?_⟩
      walk_at "go"
      refine ret_m (Nat.zero_le _) rfl ⟨rfl, _, rfl, hs, rfl, hl, hnn, by omega⟩
    · refine ⟨rfl, ?_⟩
      walk_at "go"
      have hjj := getI (xs := hs) (i := j) hj
      refine ws_augL ?_
      walk_at "go"
      refine ⟨0, _, _, j, hs[j]'hj, rfl, rfl, rfl, ixN_n2 (by rw [List.length_map]; exact hj), by rw [List.getElem?_map, hjj]; rfl, ?_⟩
      walk_at "go"
      refine ⟨rfl, ?_⟩
      refine ⟨hs.set j (hs[j]'hj + 1), _, _, rfl, by rw [List.map_set], by rw [List.length_set]; exact hl, fun v hv => ?_, ?_⟩
      · rcases List.mem_or_eq_of_mem_set hv with z | z
        · exact hnn v z
        · have := hnn _ (List.mem_of_getElem? hjj)
          omega
      · rw [set_inc hjj]; omega
  · rintro ρ m ⟨hs, x5, x6, rfl, rfl, hl, hnn, hsum⟩
    rw [rngD_len] at hsum
    walk_at "go"
    exact ret_m (Nat.zero_le _) rfl ⟨rfl, _, rfl, hs, rfl, hl, hnn, by omega⟩
end
end LP
end

section
set_option maxHeartbeats 4000000
/-! G7: spans. -/
namespace LP
open PySem PySem.Spec PyProof.Rows L2
section
variable {P : Program} {w : World} {K : PySem.W.Frag} {mg : Str → Option Value} {base : Heap}
/-- what of a node may be filled -/
def roomP (lks : List (List Int)) (i : Nat) (p : Int × Int) : Int × Int := (p.1 + lk lks i 3, imax 0 (p.2 - 2 * lk lks i 3))
structure ROg where
  lks : List (List Int)
  sp : List (Int × Int)
  i : Nat
  p : Int × Int
def S_room_of : PSpec ROg := ⟨fun x => [encLk x.lks, encP x.sp, .int (x.i : Int)], fun x => LkR x.lks (x.i + 1) ∧ x.sp[x.i]? = some x.p, fun x d => d = pr (roomP x.lks x.i x.p)⟩
theorem okS_room_of (T : Top K mg) : Has P w K mg base 2 "room_of" ["looks", "spans", "node"] (spG K S_room_of.S) := by
  have h_look_at := ok_look_at (P := P) (w := w) (K := K) (base := base) T
  refine has_ok T.d_room_of sc_room_of (fun _ => rfl) (fun _ _ _ _ _ _ us hl => match us, hl with | [_, _, _], _ => rfl) (fun f cdv A outer s H E hr => ⟨_, (pss_cons (ps_asg (pe_ix (ix_listK (K := K) rfl) (pv 1) (pv 2) (fun _ _ => rfl)) (pg_tupK (K := K) rfl rfl (pgs_cons (pg_name (i := 3) sc_room_of.nd rfl (.inl rfl)) (pgs_cons (pg_name (i := 4) sc_room_of.nd rfl (.inl rfl)) pgs_nil))))
      (pss_cons (ps_set (i := 5) sc_room_of.nd rfl (.inl rfl) (pe_has h_look_at hr (by omega) (by rfl) (pa_cons (pv 0) (pa_cons (pv 2) (pa_cons pe_str pa_nil)))))
      (pss_one (ps_ret (pe_tup (pa_cons (pe_op op_add (pv 3) (pv 5)) (pa_cons (pe_callB (call_max2 rfl) (by rfl) T.b_max bt_max (pa_cons pe_int (pa_cons (pe_op op_sub (pv 4) (pe_op op_mul pe_int (pv 5))) pa_nil))) pa_nil))))))), ?_⟩)
  rintro ⟨lks, sp, i, p⟩ hp
  simp only [cxOf, Cx.nox, Cx.wish, Cx.blk, S_room_of, N_room_of, startR, PSpec.S_args, PSpec.S_mu, PSpec.S_pre, PSpec.S_post, List.map_cons, List.map_nil, List.length_cons, List.length_nil, Nat.reduceAdd, Nat.reduceSub, List.replicate_succ, List.replicate_zero, List.cons_append, List.nil_append, List.append_nil] at hp ⊢
  obtain ⟨hL, hs⟩ := hp
  try simp only at hL hs
  have hin := hL.inset i (Nat.lt_succ_self _)
  walk_at "go"
  refine wr_ixL isl_d (at_m hs) ?_
  walk_at "go"
  refine lk_go (j := 3) hL.ok (Nat.lt_succ_self _) rfl ?_
  walk_at "go"
  refine wr_mul (.inl ⟨by omega, by omega⟩) ?_
  walk_at "go"
  exact ⟨rfl, _, rfl, rfl⟩
theorem ok_room_of (T : Top K mg) : Has P w K mg base 2 "room_of" ["looks", "spans", "node"] (spG K S_room_of.L) := okS_room_of T

structure ASPg where
  lks : List (List Int)
  i : Nat
  r : Int × Int
def S_aside_span : PSpec ASPg := ⟨fun x => [encLk x.lks, .int (x.i : Int), pr x.r], fun x => LkR x.lks (x.i + 1) ∧ 0 ≤ x.r.2, fun x d => ∃ l o, d = pr (l, o) ∧ x.r.1 ≤ l ∧ 0 ≤ o ∧ o ≤ x.r.2⟩
theorem ok_aside_span (T : Top K mg) : Has P w K mg base 2 "aside_span" ["looks", "node", "room"] (spG K S_aside_span.S) := by
  have h_look_at := ok_look_at (P := P) (w := w) (K := K) (base := base) T
  refine has_ok T.d_aside_span sc_aside_span (fun _ => rfl) (fun _ _ _ _ _ _ us hl => match us, hl with | [_, _, _], _ => rfl) (fun f cdv A outer s H E hr => ⟨_, (pss_cons (ps_asg (pv 2) (pg_tupK (K := K) rfl rfl (pgs_cons (pg_name (i := 3) sc_aside_span.nd rfl (.inl rfl)) (pgs_cons (pg_name (i := 4) sc_aside_span.nd rfl (.inl rfl)) pgs_nil))))
      (pss_cons (ps_set (i := 5) sc_aside_span.nd rfl (.inl rfl) (pe_callB (call_min2 rfl) (by rfl) T.b_min bt_min (pa_cons (pe_has h_look_at hr (by omega) (by rfl) (pa_cons (pv 0) (pa_cons (pv 1) (pa_cons pe_str pa_nil)))) (pa_cons (pe_op op_fdiv (pv 4) pe_int) pa_nil))))
      (pss_cons (ps_if (pt_cmpR op_eq (pe_has h_look_at hr (by omega) (by rfl) (pa_cons (pv 0) (pa_cons (pv 1) (pa_cons pe_str pa_nil)))) pe_int (nomark _)) (pss_one (ps_ret (pe_tup (pa_cons (pv 3) (pa_cons (pv 5) pa_nil))))) pss_nil)
      (pss_one (ps_ret (pe_tup (pa_cons (pe_op op_sub (pe_op op_add (pv 3) (pv 4)) (pv 5)) (pa_cons (pv 5) pa_nil)))))))), ?_⟩)
  rintro ⟨lks, i, l, wd⟩ hp
  simp only [cxOf, Cx.nox, Cx.wish, Cx.blk, S_aside_span, N_aside_span, startR, PSpec.S_args, PSpec.S_mu, PSpec.S_pre, PSpec.S_post, List.map_cons, List.map_nil, List.length_cons, List.length_nil, Nat.reduceAdd, Nat.reduceSub, List.replicate_succ, List.replicate_zero, List.cons_append, List.nil_append, List.append_nil] at hp ⊢
  obtain ⟨hL, hs⟩ := hp
  try simp only at hL hs
  have hwi := hL.wide i (Nat.lt_succ_self _)
  walk_at "go"
  refine lk_go (j := 11) hL.ok (Nat.lt_succ_self _) rfl ?_
  walk_at "go"
  refine wr_fdiv ⟨by omega, by omega⟩ ?_
  walk_at "go"
  obtain ⟨o, ho⟩ : ∃ o, (if wd / 2 < lk lks i 11 then wd / 2 else lk lks i 11) = o := ⟨_, rfl⟩
  have ho1 : 0 ≤ o ∧ o ≤ wd := by rw [← ho]; split <;> omega
  rw [ho]
  refine lk_go (j := 10) hL.ok (Nat.lt_succ_self _) rfl ?_
  walk_at "go"
  refine ifd (fun _ => ?_) (fun _ => ?_)
  · walk_at "go"
    exact ⟨rfl, _, rfl, l, o, rfl, Int.le_refl _, ho1.1, ho1.2⟩
  · walk_at "go"
    exact ⟨rfl, _, rfl, _, o, rfl, by show l ≤ l + wd - o; omega, ho1.1, ho1.2⟩

def floorsOf (lks : List (List Int)) (bs : List (Int × Int)) (ks : List Nat) : List Int := ks.map fun k => imax (bs.getD k (0, 0)).1 (lk lks k 5)
def S_shelf_needs : PSpec CBg := ⟨fun x => [encLk x.lks, encP x.bs, encN x.ks], LowOk,
  fun x d => ∃ rf ws : List Int, d = .tup [encI (floorsOf x.lks x.bs x.ks), encI rf, encI ws] ∧ rf.length = x.ks.length ∧ ws.length = x.ks.length ∧ ∀ v ∈ ws, 1 ≤ v ∧ v ≤ 9⟩
theorem getD_of {α : Type} {xs : List α} {i : Nat} {x d : α} (h : xs[i]? = some x) : xs.getD i d = x := by rw [List.getD_eq_getElem?_getD, h]; rfl
theorem ok_shelf_needs (T : Top K mg) : Has P w K mg base 4 "shelf_needs" ["looks", "bounds", "some"] (spG K S_shelf_needs.S) := by
  have h_floor_of := ok_floor_of (P := P) (w := w) (K := K) (base := base) T
  have h_roof_of := ok_roof_of (P := P) (w := w) (K := K) (base := base) T
  have h_look_at := ok_look_at (P := P) (w := w) (K := K) (base := base) T
  refine has_ok T.d_shelf_needs sc_shelf_needs (fun _ => rfl) (fun _ _ _ _ _ _ us hl => match us, hl with | [_, _, _], _ => rfl) (fun f cdv A outer s H E hr => ⟨_, (pss_cons (ps_setLc (i := 3) (own := [("node", 5)]) (g := (gName 5)) (tt := tYes) rfl sc_shelf_needs.nd rfl rfl (sw_true rfl rfl rfl (by decide +kernel)) (pi_listK (K := K) rfl (pv 2)) (blkOk_by (N := N_shelf_needs) (sc := defScope s_shelf_needs) (by decide +kernel)) (fun _ _ _ _ _ => (pg_name (i := 5) sc_shelf_needs.nd rfl (.inl rfl))) (fun _ _ _ _ _ => pts_nil) (fun _ _ _ _ _ => (pe_has h_floor_of hr (by omega) (by rfl) (pa_cons (pv 0) (pa_cons (pv 5) (pa_cons (pe_ix (ix_tupK (K := K) rfl) (pe_ix (ix_listK (K := K) rfl) (pv 1) (pv 5) (fun _ _ => rfl)) pe_int (fun _ _ => rfl)) pa_nil))))))
      (pss_cons (ps_setLc (i := 4) (own := [("node", 5)]) (g := (gName 5)) (tt := tYes) rfl sc_shelf_needs.nd rfl rfl (sw_true rfl rfl rfl (by decide +kernel)) (pi_listK (K := K) rfl (pv 2)) (blkOk_by (N := N_shelf_needs) (sc := defScope s_shelf_needs) (by decide +kernel)) (fun _ _ _ _ _ => (pg_name (i := 5) sc_shelf_needs.nd rfl (.inl rfl))) (fun _ _ _ _ _ => pts_nil) (fun _ _ _ _ _ => (pe_has h_roof_of hr (by omega) (by rfl) (pa_cons (pv 0) (pa_cons (pv 5) (pa_cons (pe_ix (ix_tupK (K := K) rfl) (pe_ix (ix_listK (K := K) rfl) (pv 1) (pv 5) (fun _ _ => rfl)) pe_int (fun _ _ => rfl)) pa_nil))))))
      (pss_one (ps_ret (pe_tup (pa_cons (pv 3) (pa_cons (pv 4) (pa_cons (pe_lc (own := [("node", 5)]) (g := (gName 5)) (tt := tYes) rfl sc_shelf_needs.nd (pi_listK (K := K) rfl (pv 2)) (blkOk_by (N := N_shelf_needs) (sc := defScope s_shelf_needs) (by decide +kernel)) (fun _ _ _ _ _ => (pg_name (i := 5) sc_shelf_needs.nd rfl (.inl rfl))) (fun _ _ _ _ _ => pts_nil) (fun _ _ _ _ _ => (pe_has h_look_at hr (by omega) (by rfl) (pa_cons (pv 0) (pa_cons (pv 5) (pa_cons pe_str pa_nil)))))) pa_nil)))))))), ?_⟩)
  rintro ⟨ns, lks, bs, ks, B, c⟩ hp
  simp only [cxOf, Cx.nox, Cx.wish, Cx.blk, S_shelf_needs, N_shelf_needs, startR, PSpec.S_args, PSpec.S_mu, PSpec.S_pre, PSpec.S_post, List.map_cons, List.map_nil, List.length_cons, List.length_nil, Nat.reduceAdd, Nat.reduceSub, List.replicate_succ, List.replicate_zero, List.cons_append, List.nil_append, List.append_nil] at hp ⊢
  obtain ⟨hB, hkl, hnl, hL, hbl, hk⟩ := hp
  try simp only at hB hkl hnl hL hbl hk
  walk_at "go"
  refine we_lcM (α := Nat) (gin_name (by decide)) (wi_list ?_)
  walk_at "go"
  refine ⟨ks, fun j => .int (j : Int), fun k => .int (imax (bs.getD k (0, 0)).1 (lk lks k 5)), rfl, by omega, rfl, fun i k hkk => ?_, ?_⟩
  · obtain ⟨hk1, hk2⟩ := hk k (List.mem_of_getElem? hkk)
    have hb := getI (xs := bs) (i := k) (by omega)
    walk_at "go"
    refine ⟨rfl, ?_⟩
    walk_at "go"
    refine wr_ixL isl_d (at_m hb) ?_
    walk_at "go"
    refine ⟨(lks, k, bs[k].1), rfl, hL.ok.mono hk1, fun d hd => ?_⟩
    simp only [S_floor_of] at hd
    subst hd
    exact ⟨rfl, by rw [getD_of hb]⟩
  have e1 : ∀ f : Nat → Int, (ks.map fun k => D.int (f k)) = (ks.map f).map D.int := fun f => by rw [List.map_map]; rfl
  rw [e1]
  walk_at "go"
  refine we_lcM (α := Nat) (gin_name (by decide)) (wi_list ?_)
  walk_at "go"
  refine ⟨ks, fun j => .int (j : Int), fun k => .int (imax (lk lks k 6) (imax (bs.getD k (0, 0)).1 (lk lks k 5))), rfl, by omega, rfl, fun i k hkk => ?_, ?_⟩
  · obtain ⟨hk1, hk2⟩ := hk k (List.mem_of_getElem? hkk)
    have hb := getI (xs := bs) (i := k) (by omega)
    walk_at "go"
    refine ⟨rfl, ?_⟩
    walk_at "go"
    refine wr_ixL isl_d (at_m hb) ?_
    walk_at "go"
    refine ⟨(lks, k, bs[k].1), rfl, hL.ok.mono hk1, fun d hd => ?_⟩
    simp only [S_roof_of] at hd
    subst hd
    exact ⟨rfl, by rw [getD_of hb]⟩
  rw [e1]
  walk_at "go"
  refine we_lcM (α := Nat) (gin_name (by decide)) (wi_list ?_)
  walk_at "go"
  refine ⟨ks, fun j => .int (j : Int), fun k => .int (lk lks k 4), rfl, by omega, rfl, fun i k hkk => ?_, ?_⟩
  · obtain ⟨hk1, hk2⟩ := hk k (List.mem_of_getElem? hkk)
    walk_at "go"
    refine ⟨rfl, ?_⟩
    walk_at "go"
    exact lk_go (j := 4) hL.ok hk1 rfl ⟨rfl, rfl⟩
  rw [e1]
  walk_at "go"
  refine ⟨rfl, _, rfl, _, _, rfl, by simp, by simp, fun v hv => ?_⟩
  obtain ⟨k, hkk, rfl⟩ := List.mem_map.mp hv
  exact hL.weight k (hk k hkk).1

def S_side_by_side : PSpec (Int × List Int) := ⟨fun x => [.int x.1, encI x.2], fun x => x.2.length ≤ 1000, fun x d => ∃ xs : List (Int × Int), d = encP xs ∧ xs.length = x.2.length ∧ ∀ (j : Nat) v, x.2[j]? = some v → xs[j]? = some (x.1 + (x.2.take j).sum, v)⟩
theorem ok_side_by_side (T : Top K mg) : Has P w K mg base 1 "side_by_side" ["left", "wides"] (spG K S_side_by_side.S) := by
  refine has_ok T.d_side_by_side sc_side_by_side (fun _ => rfl) (fun _ _ _ _ _ _ us hl => match us, hl with | [_, _], _ => rfl) (fun f cdv A outer s H E hr => ⟨_, (pss_cons (ps_set (i := 2) sc_side_by_side.nd rfl (.inl rfl) (pe_lst pa_nil))
      (pss_cons (ps_for PassesOwn.never rfl (pi_listK (K := K) rfl (pv 1)) (pg_name (i := 3) sc_side_by_side.nd rfl (.inl rfl)) (pss_cons (ps_expr (pe_bmK (K := K) rfl PySem.F.plainAttrs_list PySem.F.slot_list_append PySem.F.type_list_append mt_append (pv 2) (pa_cons (pe_tup (pa_cons (pv 0) (pa_cons (pv 3) pa_nil))) pa_nil)))
      (pss_one (ps_aug (i := 0) sc_side_by_side.nd rfl (.inl rfl) (pv 3) ip_add))))
      (pss_one (ps_ret (pv 2))))), ?_⟩)
  rintro ⟨l, ws⟩ hp
  simp only [cxOf, Cx.nox, Cx.wish, Cx.blk, S_side_by_side, N_side_by_side, startR, PSpec.S_args, PSpec.S_mu, PSpec.S_pre, PSpec.S_post, List.map_cons, List.map_nil, List.length_cons, List.length_nil, Nat.reduceAdd, Nat.reduceSub, List.replicate_succ, List.replicate_zero, List.cons_append, List.nil_append, List.append_nil] at hp ⊢
  walk_at "go"
  refine we_lstM0 ?_
  walk_at "go"
  refine ws_for (fun i ρ m => ∃ (xs : List (Int × Int)) (x3 : Option SV), ρ = [some (.dat (.int (l + (ws.take i).sum))), some (.dat (encI ws)), some (.ob 0), x3] ∧ m = [.lst (xs.map pr)] ∧ xs.length = i ∧ i ≤ ws.length ∧ ∀ (j : Nat) v, j < i → ws[j]? = some v → xs[j]? = some (l + (ws.take j).sum, v)) (wi_list ?_)
  walk_at "go"
  refine ⟨⟨[], none, by simp, rfl, rfl, Nat.zero_le _, fun j v h => by omega⟩, ?_, ?_⟩
  · rintro i dd ρ m hd ⟨xs, x3, rfl, rfl, hl, hi, hx⟩
    obtain ⟨v, hv, rfl⟩ := map_got hd
    have hi2 : i < ws.length := (List.getElem?_eq_some_iff.mp hv).1
    walk_at "go"
    refine ap2 rfl (by rw [List.length_map]; omega) ?_
    walk_at "go"
    refine ⟨xs ++ [(l + (ws.take i).sum, v)], some (.dat (.int v)), ?_, by rw [List.map_append]; rfl, by simp [hl], hi2, fun j v' hj hv' => ?_⟩
    · rw [List.take_add_one, hv]; simp [Int.add_assoc]
    · by_cases e : j = i
      · subst e
        rw [hv] at hv'; cases hv'
        rw [List.getElem?_append_right (by omega), hl, Nat.sub_self]; rfl
      · rw [List.getElem?_append_left (by omega)]
        exact hx j v' (by omega) hv'
  · rintro ρ m ⟨xs, x3, rfl, rfl, hl, hi, hx⟩
    rw [List.length_map] at hl hx
    walk_at "go"
    exact ret_m (Nat.zero_le _) rfl ⟨rfl, _, rfl, xs, rfl, hl, fun j v h => hx j v (List.getElem?_eq_some_iff.mp h).1 h⟩

structure SSg where
  x : CBg
  r : Int × Int
theorem floors_sum {x : CBg} (h : LowOk x) : (∀ v ∈ floorsOf x.lks x.bs x.ks, 0 ≤ v) ∧ (floorsOf x.lks x.bs x.ks).sum ≤ x.ks.length * x.B := by
  obtain ⟨hB, hkl, hnl, hL, hbl, hk⟩ := h
  have one : ∀ k ∈ x.ks, 0 ≤ imax (x.bs.getD k (0, 0)).1 (lk x.lks k 5) ∧ imax (x.bs.getD k (0, 0)).1 (lk x.lks k 5) ≤ x.B := fun k hkk => by
    obtain ⟨hk1, hk2⟩ := hk k hkk
    have hb := getI (xs := x.bs) (i := k) (by omega)
    have := hk2 _ hb
    have h5 := hL.least k hk1
    rw [getD_of hb]
    unfold imax
    split <;> omega
  refine ⟨fun v hv => ?_, ?_⟩
  · obtain ⟨k, hkk, rfl⟩ := List.mem_map.mp hv
    exact (one k hkk).1
  · unfold floorsOf
    generalize x.ks = ks at one
    induction ks with
    | nil => simp
    | cons k r ih =>
      have h1 := ih fun k' h' => one k' (List.mem_cons_of_mem _ h')
      have h2 := one k List.mem_cons_self
      rw [List.map_cons, List.sum_cons, List.length_cons, Int.natCast_add, Int.add_mul]
      try simp only at h1 h2 ⊢
      omega
/-- one beside another -/
def Beside (l : Int) (xs : List (Int × Int)) : Prop := (∀ (j : Nat) x, xs[j]? = some x → l ≤ x.1 ∧ 0 ≤ x.2) ∧ ∀ (j j' : Nat) x x', j < j' → xs[j]? = some x → xs[j']? = some x' → x.1 + x.2 ≤ x'.1
def S_shelf_spans : PSpec SSg := ⟨fun x => [encLk x.x.lks, encP x.x.bs, encN x.x.ks, pr x.r], fun x => LowOk x.x ∧ x.x.ks.length * x.x.B ≤ 1000000000000000 ∧ 0 ≤ x.r.2 ∧ x.r.2 ≤ 1000000000000000,
  fun x d => ∃ xs : List (Int × Int), d = encP xs ∧ xs.length = x.x.ks.length ∧ Beside x.r.1 xs ∧ ∀ y ∈ xs, 0 ≤ y.2 ∧ y.2 ≤ 1000000000000000⟩
theorem take_mono {ns : List Int} (h : ∀ n ∈ ns, 0 ≤ n) : ∀ {j k : Nat}, j ≤ k → (ns.take j).sum ≤ (ns.take k).sum := by
  intro j k hjk
  have e : ns.take k = ns.take j ++ (ns.take k).drop j := by
    have := List.take_append_drop j (ns.take k)
    rw [List.take_take, Nat.min_eq_left hjk] at this
    exact this.symm
  rw [e, List.sum_append]
  have := sum_nn (ns := (ns.take k).drop j) fun n hn => h n (List.mem_of_mem_take (List.mem_of_mem_drop hn))
  omega
theorem mem_le_sum {ns : List Int} (h : ∀ n ∈ ns, 0 ≤ n) : ∀ n ∈ ns, n ≤ ns.sum := by
  induction ns with
  | nil => intro n hn; cases hn
  | cons a r ih =>
    intro n hn
    have h0 := h a List.mem_cons_self
    have h1 := sum_nn fun x hx => h x (List.mem_cons_of_mem _ hx)
    rw [List.sum_cons]
    rcases List.mem_cons.mp hn with e | e
    · subst e; omega
    · have := ih (fun x hx => h x (List.mem_cons_of_mem _ hx)) n e; omega
theorem ok_shelf_spans (T : Top K mg) : Has P w K mg base 5 "shelf_spans" ["looks", "bounds", "some", "room"] (spG K S_shelf_spans.S) := by
  have h_shelf_needs := ok_shelf_needs (P := P) (w := w) (K := K) (base := base) T
  have h_side_by_side := ok_side_by_side (P := P) (w := w) (K := K) (base := base) T
  have h_shares := ok_shares (P := P) (w := w) (K := K) (base := base) T
  refine has_ok T.d_shelf_spans sc_shelf_spans (fun _ => rfl) (fun _ _ _ _ _ _ us hl => match us, hl with | [_, _, _, _], _ => rfl) (fun f cdv A outer s H E hr => ⟨_, (pss_cons (ps_asg (pe_has h_shelf_needs hr (by omega) (by rfl) (pa_cons (pv 0) (pa_cons (pv 1) (pa_cons (pv 2) pa_nil)))) (pg_tupK (K := K) rfl rfl (pgs_cons (pg_name (i := 4) sc_shelf_spans.nd rfl (.inl rfl)) (pgs_cons (pg_name (i := 5) sc_shelf_spans.nd rfl (.inl rfl)) (pgs_cons (pg_name (i := 6) sc_shelf_spans.nd rfl (.inl rfl)) pgs_nil)))))
      (pss_one (ps_ret (pe_has h_side_by_side hr (by omega) (by rfl) (pa_cons (pe_ix (ix_tupK (K := K) rfl) (pv 3) pe_int (fun _ _ => rfl)) (pa_cons (pe_has h_shares hr (by omega) (by rfl) (pa_cons (pe_ix (ix_tupK (K := K) rfl) (pv 3) pe_int (fun _ _ => rfl)) (pa_cons (pv 4) (pa_cons (pv 5) (pa_cons (pv 6) pa_nil))))) pa_nil)))))), ?_⟩)
  rintro ⟨⟨ns, lks, bs, ks, B, c⟩, l, wd⟩ hp
  simp only [cxOf, Cx.nox, Cx.wish, Cx.blk, S_shelf_spans, N_shelf_spans, startR, PSpec.S_args, PSpec.S_mu, PSpec.S_pre, PSpec.S_post, List.map_cons, List.map_nil, List.length_cons, List.length_nil, Nat.reduceAdd, Nat.reduceSub, List.replicate_succ, List.replicate_zero, List.cons_append, List.nil_append, List.append_nil] at hp ⊢
  obtain ⟨hlow, hsm, h0, h1⟩ := hp
  obtain ⟨f1, f2⟩ := floors_sum hlow
  try simp only at hsm h0 h1 f1 f2
  have hkl := hlow.2.1
  try simp only at hkl
  walk_at "go"
  refine ⟨⟨ns, lks, bs, ks, B, c⟩, rfl, hlow, fun d hd => ?_⟩
  obtain ⟨rf, ws, rfl, hrf, hws, hw⟩ := hd
  try simp only at hrf hws
  walk_at "go"
  have hfl : (floorsOf lks bs ks).length = ks.length := by unfold floorsOf; simp
  refine ⟨⟨wd, floorsOf lks bs ks, rf, ws⟩, rfl, ⟨⟨h0, h1⟩, ⟨by show (floorsOf lks bs ks).length = rf.length; omega, by show (floorsOf lks bs ks).length = ws.length; omega, by show (floorsOf lks bs ks).length ≤ 1000; omega, hw⟩, f1, by show (floorsOf lks bs ks).sum ≤ _; omega⟩, fun d hd => ?_⟩
  obtain ⟨hs, rfl, hhl, hnn, hsum⟩ := hd
  try simp only at hhl hsum
  walk_at "go"
  refine ⟨(l, hs), rfl, by show hs.length ≤ 1000; omega, fun d hd => ?_⟩
  obtain ⟨xs, rfl, hxl, hx⟩ := hd
  try simp only at hxl hx
  walk_at "go"
  have hj : ∀ (j : Nat) x, xs[j]? = some x → ∃ v, hs[j]? = some v ∧ x = (l + (hs.take j).sum, v) := fun j x h => by
    have hjl := (List.getElem?_eq_some_iff.mp h).1
    have hv := getI (xs := hs) (i := j) (by omega)
    exact ⟨_, hv, by rw [hx j _ hv] at h; exact (Option.some.inj h).symm⟩
  refine ⟨rfl, _, rfl, xs, rfl, by omega, ⟨fun j x h => ?_, fun j j' x x' hjj h h' => ?_⟩, fun y hy => ?_⟩
  · obtain ⟨v, hv, rfl⟩ := hj j x h
    have := sum_nn (ns := hs.take j) fun n hn => hnn n (List.mem_of_mem_take hn)
    exact ⟨by show l ≤ l + _; omega, hnn v (List.mem_of_getElem? hv)⟩
  · obtain ⟨v, hv, rfl⟩ := hj j x h
    obtain ⟨v', hv', rfl⟩ := hj j' x' h'
    have h2 := take_mono hnn (show j + 1 ≤ j' by omega)
    rw [List.take_add_one, hv] at h2
    simp at h2
    show l + _ + v ≤ l + _
    omega
  · obtain ⟨j, hjy⟩ := List.getElem?_of_mem hy
    obtain ⟨v, hv, rfl⟩ := hj j y hjy
    have h3 := mem_le_sum hnn v (List.mem_of_getElem? hv)
    refine ⟨hnn v (List.mem_of_getElem? hv), ?_⟩
    show v ≤ _
    rcases hsum with z | z <;> omega
end
end LP
end

section
set_option maxHeartbeats 4000000
/-! G7b: spans of grids and columns, of all nodes. -/
namespace LP
open PySem PySem.Spec PyProof.Rows L2
def cw (w : Int) (c : Nat) (k : Nat) : Int := w / (c : Int) + (if (k : Int) < w % (c : Int) then 1 else 0)
theorem cw_sum {w : Int} {c : Nat} (h1 : 1 ≤ c) (h2 : c ≤ 6) (h0 : 0 ≤ w) : ((List.range c).map (cw w c)).sum = w := by
  have : c = 1 ∨ c = 2 ∨ c = 3 ∨ c = 4 ∨ c = 5 ∨ c = 6 := by omega
  rcases this with rfl | rfl | rfl | rfl | rfl | rfl <;> (simp only [List.range_succ, List.range_zero, List.nil_append, List.map_append, List.map_cons, List.map_nil, List.sum_append, List.sum_cons, List.sum_nil, cw]; omega)
theorem cw_nn {w : Int} {c k : Nat} (h1 : 1 ≤ c) (h0 : 0 ≤ w) : 0 ≤ cw w c k := by
  unfold cw
  have := Int.ediv_nonneg h0 (show (0 : Int) ≤ c by omega)
  split <;> omega
def cellsOf (lks : List (List Int)) (ks : List Nat) : List (Nat × Nat) := ks.map fun k => ((lk lks k 8).toNat, (lk lks k 9).toNat)
/-- the spans of a grid's cells -/
def GridOk (cols : Nat) (cells : List (Nat × Nat)) (l w : Int) (xs : List (Int × Int)) : Prop := ∃ (ps : List Plc) (W : Nat → Int), Pl cols cells ps ∧ (∀ a b, a ≤ b → W a ≤ W b) ∧ (∀ a, l ≤ W a ∧ W a ≤ l + w) ∧ xs.length = ps.length ∧
  ∀ (j : Nat) p, ps[j]? = some p → xs[j]? = some (W p.c, W (p.c + p.s) - W p.c)
section
variable {P : Program} {w : World} {K : PySem.W.Frag} {mg : Str → Option Value} {base : Heap}
def S_column_wides : PSpec (Int × Nat) := ⟨fun x => [.int x.1, .int (x.2 : Int)], fun x => 1 ≤ x.2 ∧ x.2 ≤ 10, fun x d => d = encI ((List.range x.2).map (cw x.1 x.2))⟩
theorem ok_column_wides (T : Top K mg) : Has P w K mg base 1 "column_wides" ["wide", "columns"] (spG K S_column_wides.S) := by
  refine has_ok T.d_column_wides sc_column_wides (fun _ => rfl) (fun _ _ _ _ _ _ us hl => match us, hl with | [_, _], _ => rfl) (fun f cdv A outer s H E hr => ⟨_, (pss_one (ps_ret (pe_lc (own := [("column", 2)]) (g := (gName 2)) (tt := tYes) rfl sc_column_wides.nd (pi_range1 (by rfl) T.b_range (pa_cons (pv 1) pa_nil)) (blkOk_by (N := N_column_wides) (sc := defScope s_column_wides) (by decide +kernel)) (fun _ _ _ _ _ => (pg_name (i := 2) sc_column_wides.nd rfl (.inl rfl))) (fun _ _ _ _ _ => pts_nil) (fun _ _ _ _ _ => (pe_op op_add (pe_op op_fdiv (pv 0) (pv 1)) (pe_callTy call_int1 (by rfl) T.b_int bt_int (pa_cons (pe_cmpR op_lt (pv 2) (pe_op op_mod (pv 0) (pv 1)) (nomark _)) pa_nil))))))), ?_⟩)
  rintro ⟨wd, c⟩ hp
  simp only [cxOf, Cx.nox, Cx.wish, Cx.blk, S_column_wides, N_column_wides, startR, PSpec.S_args, PSpec.S_mu, PSpec.S_pre, PSpec.S_post, List.map_cons, List.map_nil, List.length_cons, List.length_nil, Nat.reduceAdd, Nat.reduceSub, List.replicate_succ, List.replicate_zero, List.cons_append, List.nil_append, List.append_nil] at hp ⊢
  obtain ⟨h1, h2⟩ := hp
  walk_at "go"
  refine we_lcM (α := Nat) (gin_name (by decide)) (wi_r1 ?_)
  walk_at "go"
  refine ⟨_, rfl, by omega, List.range c, fun k => .int (0 + (k : Int)), fun k => .int (cw wd c k), by unfold rngD; rw [Int.toNat_natCast], by simp; omega, rfl, fun i k hk => ?_, ?_⟩
  · walk_at "go"
    refine ⟨rfl, ?_⟩
    walk_at "go"
    refine wr_fdiv ⟨by omega, by omega⟩ ?_
    walk_at "go"
    refine wr_mod (by omega) ?_
    walk_at "go"
    refine ⟨rfl, ?_⟩
    unfold cw
    simp
  · walk_at "go"
    exact ⟨rfl, _, rfl, by unfold encI; rw [List.map_map]; rfl⟩

structure GSg where
  lks : List (List Int)
  i : Nat
  ks : List Nat
  r : Int × Int
  m : Nat
def S_grid_spans : PSpec GSg := ⟨fun x => [encLk x.lks, .int (x.i : Int), encN x.ks, pr x.r], fun x => LkR x.lks x.m ∧ x.i < x.m ∧ (∀ k ∈ x.ks, k < x.m) ∧ x.ks.length ≤ 1000 ∧ 0 ≤ x.r.2,
  fun x d => ∃ xs : List (Int × Int), d = encP xs ∧ GridOk (lk x.lks x.i 7).toNat (cellsOf x.lks x.ks) x.r.1 x.r.2 xs⟩
theorem ok_grid_spans (T : Top K mg) : Has P w K mg base 4 "grid_spans" ["looks", "node", "some", "room"] (spG K S_grid_spans.S) := by
  have h_look_at := ok_look_at (P := P) (w := w) (K := K) (base := base) T
  have h_column_wides := ok_column_wides (P := P) (w := w) (K := K) (base := base) T
  have h_grid_places := ok_grid_places (P := P) (w := w) (K := K) (base := base) T
  refine has_ok T.d_grid_spans sc_grid_spans (fun _ => rfl) (fun _ _ _ _ _ _ us hl => match us, hl with | [_, _, _, _], _ => rfl) (fun f cdv A outer s H E hr => ⟨_, (pss_cons (ps_set (i := 4) sc_grid_spans.nd rfl (.inl rfl) (pe_has h_look_at hr (by omega) (by rfl) (pa_cons (pv 0) (pa_cons (pv 1) (pa_cons pe_str pa_nil)))))
      (pss_cons (ps_set (i := 5) sc_grid_spans.nd rfl (.inl rfl) (pe_has h_column_wides hr (by omega) (by rfl) (pa_cons (pe_ix (ix_tupK (K := K) rfl) (pv 3) pe_int (fun _ _ => rfl)) (pa_cons (pv 4) pa_nil))))
      (pss_cons (ps_setLc (i := 6) (own := [("cell", 12)]) (g := (gName 12)) (tt := tYes) rfl sc_grid_spans.nd rfl rfl (sw_true rfl rfl rfl (by decide +kernel)) (pi_listK (K := K) rfl (pv 2)) (blkOk_by (N := N_grid_spans) (sc := defScope s_grid_spans) (by decide +kernel)) (fun _ _ _ _ _ => (pg_name (i := 12) sc_grid_spans.nd rfl (.inl rfl))) (fun _ _ _ _ _ => pts_nil) (fun _ _ _ _ _ => (pe_tup (pa_cons (pe_has h_look_at hr (by omega) (by rfl) (pa_cons (pv 0) (pa_cons (pv 12) (pa_cons pe_str pa_nil)))) (pa_cons (pe_has h_look_at hr (by omega) (by rfl) (pa_cons (pv 0) (pa_cons (pv 12) (pa_cons pe_str pa_nil)))) pa_nil)))))
      (pss_cons (ps_set (i := 7) sc_grid_spans.nd rfl (.inl rfl) (pe_lst pa_nil))
      (pss_cons (ps_for PassesOwn.never rfl (pi_listK (K := K) rfl (pe_has h_grid_places hr (by omega) (by rfl) (pa_cons (pv 4) (pa_cons (pv 6) pa_nil)))) (pg_tupK (K := K) rfl rfl (pgs_cons (pg_name (i := 8) sc_grid_spans.nd rfl (.inl rfl)) (pgs_cons (pg_name (i := 9) sc_grid_spans.nd rfl (.inl rfl)) (pgs_cons (pg_name (i := 10) sc_grid_spans.nd rfl (.inl rfl)) (pgs_cons (pg_name (i := 11) sc_grid_spans.nd rfl (.inl rfl)) pgs_nil))))) (pss_one (ps_expr (pe_bmK (K := K) rfl PySem.F.plainAttrs_list PySem.F.slot_list_append PySem.F.type_list_append mt_append (pv 7) (pa_cons (pe_tup (pa_cons (pe_op op_add (pe_ix (ix_tupK (K := K) rfl) (pv 3) pe_int (fun _ _ => rfl)) (pe_callB (cr_sumK (K := K) rfl rfl) (by rfl) T.b_sum bt_sum (pa_cons (pe_slice (sl_listK (K := K) rfl) (pv 5) po_none (po_some (pv 9))) pa_nil))) (pa_cons (pe_callB (cr_sumK (K := K) rfl rfl) (by rfl) T.b_sum bt_sum (pa_cons (pe_slice (sl_listK (K := K) rfl) (pv 5) (po_some (pv 9)) (po_some (pe_op op_add (pv 9) (pv 10)))) pa_nil)) pa_nil))) pa_nil)))))
      (pss_one (ps_ret (pv 7)))))))), ?_⟩)
  rintro ⟨lks, i, ks, ⟨l, wd⟩, m⟩ hp
  simp only [cxOf, Cx.nox, Cx.wish, Cx.blk, S_grid_spans, N_grid_spans, startR, PSpec.S_args, PSpec.S_mu, PSpec.S_pre, PSpec.S_post, List.map_cons, List.map_nil, List.length_cons, List.length_nil, Nat.reduceAdd, Nat.reduceSub, List.replicate_succ, List.replicate_zero, List.cons_append, List.nil_append, List.append_nil] at hp ⊢
  obtain ⟨hL, hi, hk, hkl, h0⟩ := hp
  try simp only at hL hi hk hkl h0
  have hc := hL.columns i hi
  obtain ⟨c, hcc⟩ : ∃ c : Nat, lk lks i 7 = (c : Int) := ⟨(lk lks i 7).toNat, by omega⟩
  rw [hcc] at hc ⊢
  rw [Int.toNat_natCast]
  walk_at "go"
  refine lk_go (j := 7) hL.ok hi rfl ?_
  rw [hcc]
  walk_at "go"
  refine ⟨(wd, c), rfl, ⟨by show 1 ≤ c; omega, by show c ≤ 10; omega⟩, fun d hd => ?_⟩
  simp only [S_column_wides] at hd
  subst hd
  walk_at "go"
  refine we_lcM (α := Nat) (gin_name (by decide)) (wi_list ?_)
  walk_at "go"
  refine ⟨ks, fun j => .int (j : Int), fun k => .tup [.int (((lk lks k 8).toNat : Nat) : Int), .int (((lk lks k 9).toNat : Nat) : Int)], rfl, by omega, rfl, fun j k hkk => ?_, ?_⟩
  · have hkm := hk k (List.mem_of_getElem? hkk)
    have h8 := hL.span k hkm
    have h9 := hL.deep k hkm
    walk_at "go"
    refine ⟨rfl, ?_⟩
    walk_at "go"
    refine lk_go (j := 8) hL.ok hkm rfl ?_
    walk_at "go"
    refine lk_go (j := 9) hL.ok hkm rfl ?_
    exact ⟨rfl, by rw [show (((lk lks k 8).toNat : Nat) : Int) = lk lks k 8 by omega, show (((lk lks k 9).toNat : Nat) : Int) = lk lks k 9 by omega]⟩
  have ec : (ks.map fun k => D.tup [.int (((lk lks k 8).toNat : Nat) : Int), .int (((lk lks k 9).toNat : Nat) : Int)]) = (cellsOf lks ks).map fun p => .tup [.int (p.1 : Int), .int (p.2 : Int)] := by
    unfold cellsOf; rw [List.map_map]; rfl
  rw [ec]
  walk_at "go"
  refine we_lstM0 ?_
  walk_at "go"
  refine ws_forE (wi_list ?_)
  walk_at "go"
  refine ⟨(c, cellsOf lks ks), rfl, ⟨by show 1 ≤ c; omega, by show c ≤ 10; omega, by unfold cellsOf; simp; omega, fun p hp => ?_⟩, fun d hd => ?_⟩
  · obtain ⟨k, hkk, rfl⟩ := List.mem_map.mp hp
    have h8 := hL.span k (hk k hkk)
    have h9 := hL.deep k (hk k hkk)
    exact ⟨by simp only; omega, by simp only; omega⟩
  obtain ⟨ps, rfl, hP⟩ := hd
  try simp only at hP
  walk_at "go"
  have hpl : ps.length ≤ 1000 := by rw [hP.1]; unfold cellsOf; simp; omega
  let ws := (List.range c).map (cw wd c)
  have hws : ∀ n ∈ ws, 0 ≤ n := fun n hn => by
    obtain ⟨k, _, rfl⟩ := List.mem_map.mp hn
    exact cw_nn (by omega) h0
  have hsum : ws.sum = wd := cw_sum (by omega) (by omega) h0
  let W : Nat → Int := fun a => l + (ws.take a).sum
  refine ⟨fun j ρ m => ∃ (xs : List (Int × Int)) (x8 x9 x10 x11 x12 : Option SV), ρ = [some (.dat (encLk lks)), some (.dat (.int (i : Int))), some (.dat (encN ks)), some (.dat (pr (l, wd))), some (.dat (.int (c : Int))), some (.dat (encI ws)), some (.dat (encC (cellsOf lks ks))), some (.ob 0), x8, x9, x10, x11, x12] ∧
    m = [.lst (xs.map pr)] ∧ xs.length = j ∧ ∀ (k : Nat) p, k < j → ps[k]? = some p → xs[k]? = some (W p.c, W (p.c + p.s) - W p.c), ⟨[], _, _, _, _, _, rfl, rfl, rfl, fun k p h => by omega⟩, ?_, ?_⟩
  · rintro j dd ρ m hd ⟨xs, x8, x9, x10, x11, x12, rfl, rfl, hxl, hx⟩
    obtain ⟨p, hpj, rfl⟩ := map_got hd
    have hj : j < ps.length := (List.getElem?_eq_some_iff.mp hpj).1
    walk_at "go"
    refine ⟨_, isl_d, ?_⟩
    walk_at "go"
    rw [cut_to, ← List.map_take]
    refine wc_sum isl_d ?_
    walk_at "go"
    refine ⟨_, isl_d, ?_⟩
    walk_at "go"
    rw [← Int.natCast_add, cut_mid, ← List.map_drop, ← List.map_take]
    refine wc_sum isl_d ?_
    walk_at "go"
    refine ap2 rfl (by rw [List.length_map]; omega) ?_
    walk_at "go"
    have es : ((ws.drop p.c).take (p.c + p.s - p.c)).sum = W (p.c + p.s) - W p.c := by
      show _ = l + (ws.take (p.c + p.s)).sum - (l + (ws.take p.c).sum)
      have e : ws.take (p.c + p.s) = ws.take p.c ++ (ws.drop p.c).take p.s := List.take_add
      rw [e, List.sum_append, Nat.add_sub_cancel_left]
      omega
    refine ⟨xs ++ [(W p.c, W (p.c + p.s) - W p.c)], _, _, _, _, _, rfl, ?_, by simp [hxl], fun k q hk hq => ?_⟩
    · rw [List.map_append, ← es]; rfl
    · by_cases e : k = j
      · subst e
        rw [hpj] at hq; cases hq
        rw [List.getElem?_append_right (by omega), hxl, Nat.sub_self]; rfl
      · rw [List.getElem?_append_left (by omega)]
        exact hx k q (by omega) hq
  · rintro ρ m ⟨xs, x8, x9, x10, x11, x12, rfl, rfl, hxl, hx⟩
    rw [List.length_map] at hxl hx
    walk_at "go"
    refine ret_m (Nat.zero_le _) rfl ⟨rfl, _, rfl, xs, rfl, ps, W, hP, fun a b hab => ?_, fun a => ⟨?_, ?_⟩, hxl, fun j p h => hx j p (List.getElem?_eq_some_iff.mp h).1 h⟩
    · show l + _ ≤ l + _
      have := take_mono hws hab
      omega
    · show l ≤ l + _
      have := sum_nn (ns := ws.take a) fun n hn => hws n (List.mem_of_mem_take hn)
      omega
    · show l + _ ≤ l + wd
      have := take_mono hws (Nat.le_max_left a ws.length)
      rw [List.take_of_length_le (Nat.le_max_right a ws.length), hsum] at this
      omega

structure CSg where
  ns : List Nd
  lks : List (List Int)
  ks : List Nat
  r : Int × Int
def S_column_spans : PSpec CSg := ⟨fun x => [encB x.ns, encLk x.lks, encN x.ks, pr x.r], fun x => LkR x.lks x.ns.length ∧ (∀ k ∈ x.ks, k < x.ns.length) ∧ x.ks.length ≤ 1000 ∧ 0 ≤ x.r.2,
  fun x d => ∃ xs : List (Int × Int), d = encP xs ∧ xs.length = x.ks.length ∧ ∀ y ∈ xs, x.r.1 ≤ y.1 ∧ 0 ≤ y.2 ∧ y.2 ≤ x.r.2⟩
theorem ok_column_spans (T : Top K mg) : Has P w K mg base 3 "column_spans" ["book", "looks", "some", "room"] (spG K S_column_spans.S) := by
  have h_aside_span := ok_aside_span (P := P) (w := w) (K := K) (base := base) T
  refine has_ok T.d_column_spans sc_column_spans (fun _ => rfl) (fun _ _ _ _ _ _ us hl => match us, hl with | [_, _, _, _], _ => rfl) (fun f cdv A outer s H E hr => ⟨_, (pss_cons (ps_set (i := 4) sc_column_spans.nd rfl (.inl rfl) (pe_lst pa_nil))
      (pss_cons (ps_for PassesOwn.never rfl (pi_listK (K := K) rfl (pv 2)) (pg_name (i := 5) sc_column_spans.nd rfl (.inl rfl)) (pss_one (ps_if (pt_cmpR op_eq (pe_ix (ix_tupK (K := K) rfl) (pe_ix (ix_listK (K := K) rfl) (pv 0) (pv 5) (fun _ _ => rfl)) pe_int (fun _ _ => rfl)) pe_str (nomark _)) (pss_one (ps_expr (pe_bmK (K := K) rfl PySem.F.plainAttrs_list PySem.F.slot_list_append PySem.F.type_list_append mt_append (pv 4) (pa_cons (pe_has h_aside_span hr (by omega) (by rfl) (pa_cons (pv 1) (pa_cons (pv 5) (pa_cons (pv 3) pa_nil)))) pa_nil)))) (pss_one (ps_expr (pe_bmK (K := K) rfl PySem.F.plainAttrs_list PySem.F.slot_list_append PySem.F.type_list_append mt_append (pv 4) (pa_cons (pv 3) pa_nil)))))))
      (pss_one (ps_ret (pv 4))))), ?_⟩)
  rintro ⟨ns, lks, ks, l, wd⟩ hp
  simp only [cxOf, Cx.nox, Cx.wish, Cx.blk, S_column_spans, N_column_spans, startR, PSpec.S_args, PSpec.S_mu, PSpec.S_pre, PSpec.S_post, List.map_cons, List.map_nil, List.length_cons, List.length_nil, Nat.reduceAdd, Nat.reduceSub, List.replicate_succ, List.replicate_zero, List.cons_append, List.nil_append, List.append_nil] at hp ⊢
  obtain ⟨hL, hk, hkl, h0⟩ := hp
  try simp only at hL hk hkl h0
  walk_at "go"
  refine we_lstM0 ?_
  walk_at "go"
  refine ws_for (fun j ρ m => ∃ (xs : List (Int × Int)) (x5 : Option SV), ρ = [some (.dat (encB ns)), some (.dat (encLk lks)), some (.dat (encN ks)), some (.dat (pr (l, wd))), some (.ob 0), x5] ∧ m = [.lst (xs.map pr)] ∧ xs.length = j ∧ ∀ y ∈ xs, l ≤ y.1 ∧ 0 ≤ y.2 ∧ y.2 ≤ wd) (wi_list ?_)
  walk_at "go"
  refine ⟨⟨[], _, rfl, rfl, rfl, fun y h => by simp at h⟩, ?_, ?_⟩
  · rintro j dd ρ m hd ⟨xs, x5, rfl, rfl, hxl, hx⟩
    obtain ⟨k, hkk, rfl⟩ := map_got hd
    have hj : j < ks.length := (List.getElem?_eq_some_iff.mp hkk).1
    have hkm := hk k (List.mem_of_getElem? hkk)
    have hn := getI hkm
    walk_at "go"
    refine wr_ixL isl_d (at_m hn) ?_
    walk_at "go"
    refine ifd (fun _ => ?_) (fun _ => ?_)
    · walk_at "go"
      refine ⟨⟨lks, k, (l, wd)⟩, rfl, ⟨hL.mono hkm, h0⟩, fun d hd => ?_⟩
      obtain ⟨l', o, rfl, h1, h2, h3⟩ := hd
      walk_at "go"
      refine ap2 rfl (by rw [List.length_map]; omega) ?_
      walk_at "go"
      refine ⟨xs ++ [(l', o)], _, rfl, by rw [List.map_append]; rfl, by simp [hxl], fun y hy => ?_⟩
      rcases List.mem_append.mp hy with z | z
      · exact hx y z
      · rw [List.mem_singleton.mp z]; exact ⟨h1, h2, h3⟩
    · walk_at "go"
      refine ap2 rfl (by rw [List.length_map]; omega) ?_
      walk_at "go"
      refine ⟨xs ++ [(l, wd)], _, rfl, by rw [List.map_append]; rfl, by simp [hxl], fun y hy => ?_⟩
      rcases List.mem_append.mp hy with z | z
      · exact hx y z
      · rw [List.mem_singleton.mp z]; exact ⟨Int.le_refl _, h0, Int.le_refl _⟩
  · rintro ρ m ⟨xs, x5, rfl, rfl, hxl, hx⟩
    rw [List.length_map] at hxl
    walk_at "go"
    exact ret_m (Nat.zero_le _) rfl ⟨rfl, _, rfl, xs, rfl, hxl, hx⟩
end
end LP
end

section
set_option maxHeartbeats 4000000
/-! G7c: spans of what a node holds, of all nodes. -/
namespace LP
open PySem PySem.Spec PyProof.Rows L2
/-- the spans of what a node holds; p: its own -/
def HS (ns : List Nd) (lks : List (List Int)) (i : Nat) (p : Int × Int) (xs : List (Int × Int)) : Prop := xs.length = (hold ns i).length ∧ (∀ x ∈ xs, 0 ≤ x.2 ∧ x.2 ≤ 1000000000000000) ∧ ∀ n, ns[i]? = some n → n.kd.cont = true →
  (∀ x ∈ xs, p.1 + lk lks i 3 ≤ x.1) ∧ (n.kd = .shelf → Beside (p.1 + lk lks i 3) xs) ∧ (n.kd = .grid → GridOk (lk lks i 7).toNat (cellsOf lks (hold ns i)) (p.1 + lk lks i 3) (roomP lks i p).2 xs)
structure HSg where
  ns : List Nd
  lks : List (List Int)
  bs : List (Int × Int)
  sp : List (Int × Int)
  i : Nat
  lv : Nat → Nat
def SpW (ns : List Nd) (sp : List (Int × Int)) : Prop := sp.length = ns.length ∧ ∀ p ∈ sp, 0 ≤ p.2 ∧ p.2 ≤ 1000000000000000
def HSok (x : HSg) : Prop := Bk x.ns x.lv ∧ LkR x.lks x.ns.length ∧ BsOk x.ns x.lv x.bs ∧ SpW x.ns x.sp ∧ x.i < x.ns.length
theorem room_w {lks : List (List Int)} {i : Nat} {p : Int × Int} (h : 0 ≤ p.2 ∧ p.2 ≤ 1000000000000000) (hL : 0 ≤ lk lks i 3) : 0 ≤ (roomP lks i p).2 ∧ (roomP lks i p).2 ≤ 1000000000000000 := by
  unfold roomP imax
  simp only
  split <;> omega
section
variable {P : Program} {w : World} {K : PySem.W.Frag} {mg : Str → Option Value} {base : Heap}
def S_held_spans : Spec HSg := ⟨fun x => [.dat (encB x.ns), .dat (encLk x.lks), .dat (encP x.bs), .ob 0, .dat (.int (x.i : Int))], fun x => [.lst (x.sp.map pr)], HSok,
  fun x s mu => mu = [.lst (x.sp.map pr)] ∧ ∃ xs p, s = .dat (encP xs) ∧ x.sp[x.i]? = some p ∧ HS x.ns x.lks x.i p xs⟩
theorem ok_held_spans (T : Top K mg) : Has P w K mg base 6 "held_spans" ["book", "looks", "bounds", "spans", "node"] (spG K S_held_spans) := by
  have h_holds := ok_holds (P := P) (w := w) (K := K) (base := base) T
  have h_room_of := ok_room_of (P := P) (w := w) (K := K) (base := base) T
  have h_shelf_spans := ok_shelf_spans (P := P) (w := w) (K := K) (base := base) T
  have h_grid_spans := ok_grid_spans (P := P) (w := w) (K := K) (base := base) T
  have h_column_spans := ok_column_spans (P := P) (w := w) (K := K) (base := base) T
  refine has_ok T.d_held_spans sc_held_spans (fun _ => rfl) (fun _ _ _ _ _ _ us hl => match us, hl with | [_, _, _, _, _], _ => rfl) (fun f cdv A outer s H E hr => ⟨_, (pss_cons (ps_set (i := 5) sc_held_spans.nd rfl (.inl rfl) (pe_ix (ix_tupK (K := K) rfl) (pe_ix (ix_listK (K := K) rfl) (pv 0) (pv 4) (fun _ _ => rfl)) pe_int (fun _ _ => rfl)))
      (pss_cons (ps_set (i := 6) sc_held_spans.nd rfl (.inl rfl) (pe_has h_holds hr (by omega) (by rfl) (pa_cons (pv 0) (pa_cons (pv 4) pa_nil))))
      (pss_cons (ps_if (PW.pt (pw_or (pt_cmpR op_eq (pv 5) pe_str (nomark _)) (pw_or1 (pt_cmpR op_eq (pv 5) pe_str (nomark _))))) (pss_one (ps_ret (pe_lc (own := [("note", 8)]) (g := (gName 8)) (tt := tYes) rfl sc_held_spans.nd (pi_listK (K := K) rfl (pv 6)) (blkOk_by (N := N_held_spans) (sc := defScope s_held_spans) (by decide +kernel)) (fun _ _ _ _ _ => (pg_name (i := 8) sc_held_spans.nd rfl (.inl rfl))) (fun _ _ _ _ _ => pts_nil) (fun _ _ _ _ _ => (pe_has h_room_of hr (by omega) (by rfl) (pa_cons (pv 1) (pa_cons (pv 3) (pa_cons pe_int pa_nil)))))))) pss_nil)
      (pss_cons (ps_set (i := 7) sc_held_spans.nd rfl (.inl rfl) (pe_has h_room_of hr (by omega) (by rfl) (pa_cons (pv 1) (pa_cons (pv 3) (pa_cons (pv 4) pa_nil)))))
      (pss_cons (ps_if (pt_cmpR op_eq (pv 5) pe_str (nomark _)) (pss_one (ps_ret (pe_has h_shelf_spans hr (by omega) (by rfl) (pa_cons (pv 1) (pa_cons (pv 2) (pa_cons (pv 6) (pa_cons (pv 7) pa_nil))))))) pss_nil)
      (pss_cons (ps_if (pt_cmpR op_eq (pv 5) pe_str (nomark _)) (pss_one (ps_ret (pe_has h_grid_spans hr (by omega) (by rfl) (pa_cons (pv 1) (pa_cons (pv 4) (pa_cons (pv 6) (pa_cons (pv 7) pa_nil))))))) pss_nil)
      (pss_one (ps_ret (pe_has h_column_spans hr (by omega) (by rfl) (pa_cons (pv 0) (pa_cons (pv 1) (pa_cons (pv 6) (pa_cons (pv 7) pa_nil))))))))))))), ?_⟩)
  rintro ⟨ns, lks, bs, sp, i, lv⟩ hp
  simp only [cxOf, Cx.nox, Cx.wish, Cx.blk, S_held_spans, N_held_spans, startR, PSpec.S_args, PSpec.S_mu, PSpec.S_pre, PSpec.S_post, List.map_cons, List.map_nil, List.length_cons, List.length_nil, Nat.reduceAdd, Nat.reduceSub, List.replicate_succ, List.replicate_zero, List.cons_append, List.nil_append, List.append_nil] at hp ⊢
  obtain ⟨hb, hL, ⟨hbl, hbs⟩, ⟨hsl, hsw⟩, hi⟩ := hp
  try simp only at hb hL hbl hbs hsl hsw hi
  have hnl := hb.len
  have hn := getI hi
  obtain ⟨n, hnn⟩ : ∃ n, ns[i] = n := ⟨_, rfl⟩
  rw [hnn] at hn
  have hs := getI (xs := sp) (i := i) (by omega)
  obtain ⟨p, hpp⟩ : ∃ p, sp[i]'(by omega) = p := ⟨_, rfl⟩
  rw [hpp] at hs
  have hs0 := getI (xs := sp) (i := 0) (by omega)
  obtain ⟨p0, hpp0⟩ : ∃ p, sp[0]'(by omega) = p := ⟨_, rfl⟩
  rw [hpp0] at hs0
  have hin := hL.inset i hi
  have hin0 := hL.inset 0 (by omega)
  have hpw := hsw p (List.mem_of_getElem? hs)
  have hrw := room_w (lks := lks) (i := i) hpw hin.1
  have hrw0 := room_w (lks := lks) (i := 0) (hsw p0 (List.mem_of_getElem? hs0)) hin0.1
  have hhl := hold_len (ns := ns) (i := i)
  walk_at "go"
  refine wr_ixL isl_d (at_m hn) ?_
  walk_at "go"
  refine ⟨(ns, i), rfl, ⟨hi, hnl⟩, fun d hd => ?_⟩
  simp only [S_holds] at hd
  subst hd
  -- the texts
  have hnotes : n.kd.cont = false → WE K (tLc (iList K (tVar 6)) (gName 8) tYes (tCall (spG K S_room_of.L) [] E0 (tCons (tVar 1) (tCons (tVar 3) (tCons (tC (V.int 0)) tNil)))) [8])
      [some (.dat (encB ns)), some (.dat (encLk lks)), some (.dat (encP bs)), some (.ob 0), some (.dat (.int (i : Int))), some (.dat (.str n.kd.s)), some (.dat (encN (hold ns i))), none, none] [.lst (sp.map pr)]
      fun s mu1 => RetTo 1 s mu1 fun s mu => mu = [.lst (sp.map pr)] ∧ ∃ xs p, s = .dat (encP xs) ∧ sp[i]? = some p ∧ HS ns lks i p xs := fun hc => by
    refine we_lcM (α := Nat) (gin_name (by decide)) (wi_list ?_)
    walk_at "go"
    refine ⟨hold ns i, fun j => .int (j : Int), fun _ => pr (roomP lks 0 p0), rfl, by omega, rfl, fun j k hkk => ?_, ?_⟩
    · walk_at "go"
      refine ⟨rfl, ?_⟩
      refine we_callL ?_
      walk_at "go"
      refine ⟨⟨lks, sp, 0, p0⟩, rfl, ⟨hL.mono (by show 0 + 1 ≤ ns.length; omega), hs0⟩, fun d hd => ?_⟩
      simp only [S_room_of] at hd
      subst hd
      exact ⟨rfl, rfl, rfl⟩
    · walk_at "go"
      refine ⟨rfl, (hold ns i).map (fun _ => roomP lks 0 p0), p, by unfold encP; rw [List.map_map]; rfl, hs, by simp, fun x hx => ?_, fun n' h hc' => ?_⟩
      · obtain ⟨_, _, rfl⟩ := List.mem_map.mp hx
        exact hrw0
      · rw [hn] at h; cases h
        rw [hc] at hc'; cases hc'
  walk_at "go"
  refine ifd (fun h => ⟨fun _ => ws_ret (hnotes (by rw [Kd.inj (b := .text) h]; rfl)), fun z => (by cases z)⟩) (fun h1 => ?_)
  walk_at "go"
  refine ifd (fun h => ws_ret (hnotes (by rw [Kd.inj (b := .head) h]; rfl))) (fun h2 => ?_)
  walk_at "go"
  refine we_callL ?_
  walk_at "go"
  refine ⟨⟨lks, sp, i, p⟩, rfl, ⟨hL.mono hi, hs⟩, fun d hd => ?_⟩
  simp only [S_room_of] at hd
  subst hd
  refine ⟨rfl, ?_⟩
  walk_at "go"
  have hLB : n.kd.cont = true → ∀ k ∈ hold ns i, ∀ q, bs[k]? = some q → 0 ≤ q.1 ∧ q.1 ≤ 200000 * ((2000 ^ (3 - lv i) : Nat) : Int) := fun hc k hk q hq => by
    have h1 := hbs k q hq
    have h2 := LB_kid hb hn hc hk
    exact ⟨h1.1, Int.le_trans h1.2 h2⟩
  have hkn : ∀ k ∈ hold ns i, k < ns.length := fun k hk => (mem_hold.mp hk).1
  refine ifd (fun h => ?_) (fun h3 => ?_)
  · have hkd : n.kd = .shelf := Kd.inj (b := .shelf) h
    have hc : n.kd.cont = true := by rw [hkd]; rfl
    have hlv : 1 ≤ lv i := by
      rcases Nat.eq_zero_or_pos i with z | z
      · subst z
        have := (hb.root n hn).1
        rw [hkd] at this; cases this
      · obtain ⟨e, m, _, _, _, h, _⟩ := hb.eld i n z hn
        omega
    have hpw3 := pw_pos (3 - lv i)
    have hpw4 : ((2000 ^ (3 - lv i) : Nat) : Int) ≤ 4000000 := by
      have : 2000 ^ (3 - lv i) ≤ 2000 ^ 2 := Nat.pow_le_pow_right (by omega) (by omega)
      omega
    generalize hB : ((2000 ^ (3 - lv i) : Nat) : Int) = B0 at hLB hpw3 hpw4
    have hlow : LowOk ⟨ns, lks, bs, hold ns i, 200000 * B0, 0⟩ := ⟨by show (200 : Int) ≤ 200000 * B0; omega, by show (hold ns i).length ≤ 1000; omega, hnl, hL, hbl, fun k hk => ⟨hkn k hk, hLB hc k hk⟩⟩
    have hmul : ((hold ns i).length : Int) * (200000 * B0) ≤ 1000000000000000 := by
      have h1 : ((hold ns i).length : Int) * (200000 * B0) ≤ 1000 * (200000 * B0) := Int.mul_le_mul_of_nonneg_right (by omega) (by omega)
      omega
    walk_at "go"
    refine ⟨⟨⟨ns, lks, bs, hold ns i, 200000 * B0, 0⟩, roomP lks i p⟩, rfl, ⟨hlow, hmul, hrw.1, hrw.2⟩, fun d hd => ?_⟩
    obtain ⟨xs, rfl, hxl, hx1, hx2⟩ := hd
    walk_at "go"
    refine ⟨rfl, xs, p, rfl, hs, hxl, hx2, fun n' h _ => ⟨fun x hx => ?_, fun _ => hx1, fun z => ?_⟩⟩
    · obtain ⟨j, hj⟩ := List.getElem?_of_mem hx
      exact (hx1.1 j x hj).1
    · rw [hn] at h; cases h
      rw [hkd] at z; cases z
  walk_at "go"
  refine ifd (fun h => ?_) (fun h4 => ?_)
  · have hkd : n.kd = .grid := Kd.inj (b := .grid) h
    walk_at "go"
    refine ⟨⟨lks, i, hold ns i, roomP lks i p, ns.length⟩, rfl, ⟨hL, hi, hkn, by show (hold ns i).length ≤ 1000; omega, hrw.1⟩, fun d hd => ?_⟩
    obtain ⟨xs, rfl, ps, W, g1, g2, g3, g4, g5⟩ := hd
    walk_at "go"
    have hpl : ps.length = (hold ns i).length := by rw [g1.1]; unfold cellsOf; simp
    have hx : ∀ x ∈ xs, ∃ q, x = (W q.c, W (q.c + q.s) - W q.c) ∧ q ∈ ps := fun x hx => by
      obtain ⟨j, hj⟩ := List.getElem?_of_mem hx
      have hjl := (List.getElem?_eq_some_iff.mp hj).1
      have hq := getI (xs := ps) (i := j) (by omega)
      have := g5 j _ hq
      rw [hj] at this
      exact ⟨_, Option.some.inj this, List.mem_of_getElem? hq⟩
    refine ⟨rfl, xs, p, rfl, hs, by omega, fun x hxm => ?_, fun n' h _ => ⟨fun x hxm => ?_, fun z => ?_, fun _ => ⟨ps, W, g1, g2, g3, g4, g5⟩⟩⟩
    · obtain ⟨q, rfl, _⟩ := hx x hxm
      have a1 := g2 q.c (q.c + q.s) (by omega)
      have a2 := g3 q.c
      have a3 := g3 (q.c + q.s)
      have a4 := hrw.2
      simp only at a2 a3 ⊢
      omega
    · obtain ⟨q, rfl, _⟩ := hx x hxm
      exact (g3 q.c).1
    · rw [hn] at h; cases h
      rw [hkd] at z; cases z
  · walk_at "go"
    refine ⟨⟨ns, lks, hold ns i, roomP lks i p⟩, rfl, ⟨hL, hkn, by show (hold ns i).length ≤ 1000; omega, hrw.1⟩, fun d hd => ?_⟩
    obtain ⟨xs, rfl, hxl, hx⟩ := hd
    walk_at "go"
    refine ⟨rfl, xs, p, rfl, hs, hxl, fun x hxm => ?_, fun n' h _ => ⟨fun x hxm => (hx x hxm).1, fun z => ?_, fun z => ?_⟩⟩
    · obtain ⟨a1, a2, a3⟩ := hx x hxm
      have := hrw.2
      simp only at a3
      exact ⟨a2, by omega⟩
    · rw [hn] at h; cases h
      exact absurd (by rw [z]; rfl) h3
    · rw [hn] at h; cases h
      exact absurd (by rw [z]; rfl) h4

structure ALg where
  ns : List Nd
  lks : List (List Int)
  bs : List (Int × Int)
  w : Int
  lv : Nat → Nat
/-- the spans of all -/
def SpOk (ns : List Nd) (lks : List (List Int)) (sp : List (Int × Int)) : Prop := SpW ns sp ∧ ∀ i, i < ns.length → ∃ p xs, sp[i]? = some p ∧ HS ns lks i p xs ∧ ∀ (j k : Nat), (hold ns i)[j]? = some k → sp[k]? = xs[j]?
def S_all_spans : PSpec ALg := ⟨fun x => [encB x.ns, encLk x.lks, encP x.bs, .int x.w], fun x => Bk x.ns x.lv ∧ LkR x.lks x.ns.length ∧ BsOk x.ns x.lv x.bs ∧ 0 ≤ x.w ∧ x.w ≤ 1000,
  fun x d => ∃ sp, d = encP sp ∧ SpOk x.ns x.lks sp⟩
theorem ok_all_spans (T : Top K mg) : Has P w K mg base 7 "all_spans" ["book", "looks", "bounds", "wide"] (spG K S_all_spans.S) := by
  have h_held_spans := ok_held_spans (P := P) (w := w) (K := K) (base := base) T
  have h_holds := ok_holds (P := P) (w := w) (K := K) (base := base) T
  refine has_ok T.d_all_spans sc_all_spans (fun _ => rfl) (fun _ _ _ _ _ _ us hl => match us, hl with | [_, _, _, _], _ => rfl) (fun f cdv A outer s H E hr => ⟨_, (pss_cons (ps_set (i := 4) sc_all_spans.nd rfl (.inl rfl) (pe_op op_rep (pe_lst (pa_cons (pe_tup (pa_cons pe_int (pa_cons (pv 3) pa_nil))) pa_nil)) (pe_callB (call_lenK (K := K) rfl) (by rfl) T.b_len bt_len (pa_cons (pv 0) pa_nil))))
      (pss_cons (ps_for PassesOwn.never rfl (pi_range1 (by rfl) T.b_range (pa_cons (pe_callB (call_lenK (K := K) rfl) (by rfl) T.b_len bt_len (pa_cons (pv 0) pa_nil)) pa_nil)) (pg_name (i := 5) sc_all_spans.nd rfl (.inl rfl)) (pss_one (ps_for PassesOwn.never rfl (pi_zipK (K := K) rfl (by rfl) T.b_zip (pa_cons (pe_has h_holds hr (by omega) (by rfl) (pa_cons (pv 0) (pa_cons (pv 5) pa_nil))) (pa_cons (pe_has h_held_spans hr (by omega) (by rfl) (pa_cons (pv 0) (pa_cons (pv 1) (pa_cons (pv 2) (pa_cons (pv 4) (pa_cons (pv 5) pa_nil)))))) pa_nil))) (pg_tupK (K := K) rfl rfl (pgs_cons (pg_name (i := 6) sc_all_spans.nd rfl (.inl rfl)) (pgs_cons (pg_name (i := 7) sc_all_spans.nd rfl (.inl rfl)) pgs_nil))) (pss_one (ps_asg (pv 7) (pg_sub (pv 4) (pv 6) set_list))))))
      (pss_one (ps_ret (pv 4))))), ?_⟩)
  rintro ⟨ns, lks, bs, wd, lv⟩ hp
  simp only [cxOf, Cx.nox, Cx.wish, Cx.blk, S_all_spans, N_all_spans, startR, PSpec.S_args, PSpec.S_mu, PSpec.S_pre, PSpec.S_post, List.map_cons, List.map_nil, List.length_cons, List.length_nil, Nat.reduceAdd, Nat.reduceSub, List.replicate_succ, List.replicate_zero, List.cons_append, List.nil_append, List.append_nil] at hp ⊢
  obtain ⟨hb, hL, hbs, h0, h1⟩ := hp
  try simp only at hb hL hbs h0 h1
  have hnl := hb.len
  walk_at "go"
  refine we_lst1 ?_
  walk_at "go"
  refine wr_repM (n := (ns.map Nd.enc).length) isl_d (by rw [List.length_map]; omega) ?_
  walk_at "go"
  refine ws_for (fun i ρ m => ∃ (sp : List (Int × Int)) (x5 x6 x7 : Option SV), ρ = [some (.dat (encB ns)), some (.dat (encLk lks)), some (.dat (encP bs)), some (.dat (.int wd)), some (.ob 0), x5, x6, x7] ∧ m = [.lst (sp.map pr)] ∧ SpW ns sp ∧
    ∀ i', i' < i → ∃ p xs, sp[i']? = some p ∧ HS ns lks i' p xs ∧ ∀ (j k : Nat), (hold ns i')[j]? = some k → sp[k]? = xs[j]?) (wi_r1 ?_)
  walk_at "go"
  refine ⟨_, rfl, by rw [List.length_map]; omega, ⟨List.replicate ns.length (0, wd), _, _, _, rfl, by rw [List.length_map, List.map_replicate], ⟨by simp, fun p hp => ?_⟩, fun i' h => by omega⟩, ?_, ?_⟩
  · rw [(List.mem_replicate.mp hp).2]
    exact ⟨h0, by show wd ≤ _; omega⟩
  · rintro i dd ρ m hd ⟨sp, x5, x6, x7, rfl, rfl, hsw, hsp⟩
    obtain ⟨hi, rfl⟩ := rngD_get hd
    have hi2 : i < ns.length := by rw [List.length_map] at hi; omega
    rw [show (0 : Int) + (i : Nat) = (i : Int) by omega]
    walk_at "go"
    refine ws_forE (wi_zip ?_)
    walk_at "go"
    refine ⟨(ns, i), rfl, ⟨hi2, hnl⟩, fun d hd => ?_⟩
    simp only [S_holds] at hd
    subst hd
    walk_at "go"
    refine we_callM ?_
    walk_at "go"
    refine ⟨⟨ns, lks, bs, sp, i, lv⟩, [0], rfl, by simp, rfl, fun i hi => ?_, ⟨hb, hL, hbs, hsw, hi2⟩, ?_⟩
    · simp [S_held_spans] at hi; simp [hi]
    rintro t mc ⟨rfl, xs, p, rfl, hpi, hHS⟩
    try simp only at hpi hHS
    dsimp only [backV, putAll, List.drop, List.length_cons, List.length_nil, List.append_nil, lset0, lsetS, Nat.zero_add]
    walk_at "go"
    refine ⟨_, _, rfl, fun j ρ m => ∃ (sp' : List (Int × Int)) (x6 x7 : Option SV), ρ = [some (.dat (encB ns)), some (.dat (encLk lks)), some (.dat (encP bs)), some (.dat (.int wd)), some (.ob 0), some (.dat (.int (i : Int))), x6, x7] ∧ m = [.lst (sp'.map pr)] ∧ SpW ns sp' ∧
      (∀ j' k, j' < j → (hold ns i)[j']? = some k → sp'[k]? = xs[j']?) ∧ ∀ k, k ∉ hold ns i → sp'[k]? = sp[k]?,
      ⟨sp, _, _, rfl, rfl, hsw, fun j' k h => by omega, fun k _ => rfl⟩, ?_, ?_⟩
    · rintro j dd ρ m hd ⟨sp', x6, x7, rfl, rfl, hsw', hk, ho⟩
      obtain ⟨x, y, hx, hy, rfl⟩ := zipD_get hd
      obtain ⟨k, hkj, rfl⟩ := map_got hx
      obtain ⟨q, hq, rfl⟩ := map_got hy
      have hkm := (mem_hold.mp (List.mem_of_getElem? hkj)).1
      walk_at "go"
      refine wg_sub ?_
      walk_at "go"
      refine ⟨0, _, _, k, rfl, rfl, rfl, ixN_n (by rw [List.length_map, hsw'.1]; exact hkm), ?_⟩
      refine ⟨sp'.set k q, _, _, rfl, by rw [List.map_set]; rfl, ⟨by rw [List.length_set]; exact hsw'.1, fun p' hp' => ?_⟩, fun j' k' hj' hk' => ?_, fun k' hk' => ?_⟩
      · rcases List.mem_or_eq_of_mem_set hp' with z | z
        · exact hsw'.2 p' z
        · rw [z]; exact hHS.2.1 q (List.mem_of_getElem? hq)
      · by_cases e : k' = k
        · subst e
          have hjj : j' = j := nd_ix (hold_nodup ns i) hk' hkj
          subst hjj
          rw [List.getElem?_set_self (by rw [hsw'.1]; exact hkm), hq]
        · rw [List.getElem?_set_ne (fun z => e z.symm)]
          refine hk j' k' ?_ hk'
          by_cases e2 : j' = j
          · subst e2; rw [hkj] at hk'; cases hk'; exact absurd rfl e
          · omega
      · rw [List.getElem?_set_ne (show k ≠ k' from fun z => hk' (by rw [← z]; exact List.mem_of_getElem? hkj))]
        exact ho k' hk'
    · rintro ρ m ⟨sp', x6, x7, rfl, rfl, hsw', hk, ho⟩
      rw [zipD_len, List.length_map, List.length_map, hHS.1, Nat.min_self] at hk
      refine ⟨sp', _, _, _, rfl, rfl, hsw', fun i' hi' => ?_⟩
      have hii : i ∉ hold ns i := fun z => absurd (mem_hold.mp z).2.1 (Nat.lt_irrefl _)
      by_cases e : i' = i
      · subst e
        exact ⟨p, xs, by rw [ho i' hii]; exact hpi, hHS, fun j k h => hk j k (List.getElem?_eq_some_iff.mp h).1 h⟩
      · have hlt : i' < i := by omega
        obtain ⟨p', xs', q1, q2, q3⟩ := hsp i' hlt
        have hni : i' ∉ hold ns i := fun z => by have := (mem_hold.mp z).2.1; omega
        refine ⟨p', xs', by rw [ho i' hni]; exact q1, q2, fun j k h => ?_⟩
        rw [← q3 j k h]
        refine ho k fun z => ?_
        have e1 := (mem_hold.mp z).2.2
        have e2 := (mem_hold.mp (List.mem_of_getElem? h)).2.2
        rw [e1] at e2
        have := Option.some.inj e2
        omega
  · rintro ρ m ⟨sp, x5, x6, x7, rfl, rfl, hsw, hsp⟩
    rw [rngD_len, List.length_map, Int.toNat_natCast] at hsp
    walk_at "go"
    exact ret_m (Nat.zero_le _) rfl ⟨rfl, _, rfl, sp, rfl, hsw, hsp⟩
end
end LP
end

section
set_option maxHeartbeats 4000000
/-! G8: sizes of texts. -/
namespace LP
open PySem PySem.Spec PyProof.Rows L2
structure Sz where
  h : Int
  rows : List (Nat × Nat)
  sums : D
  cnt : Int
@[reducible] def Sz.enc (z : Sz) : D := .tup [.int z.h, encR z.rows, z.sums, .int z.cnt]
@[reducible] def encSz (zs : List Sz) : D := .lst (zs.map Sz.enc)
def szF (zf : Nat → Option Sz) : Key → Option D
  | .inl i => if 0 ≤ i then (zf i.toNat).map Sz.enc else none
  | .inr _ => none
theorem szF_nat {zf : Nat → Option Sz} {i : Nat} {z : Sz} (h : zf i = some z) : szF zf (.inl (i : Int)) = some z.enc := by
  show (if 0 ≤ (i : Int) then (zf (i : Int).toNat).map Sz.enc else none) = _
  rw [if_pos (by omega), Int.toNat_natCast, h]; rfl
def updZ (zf : Nat → Option Sz) (i : Nat) (z : Sz) : Nat → Option Sz := fun j => if j = i then some z else zf j
theorem szF_upd {zf : Nat → Option Sz} {i : Nat} {z : Sz} : (fun j => if j = (.inl (i : Int) : Key) then some z.enc else szF zf j) = szF (updZ zf i z) := by
  funext k
  cases k with
  | inr x => simp [szF]
  | inl j =>
    show (if (.inl j : Key) = .inl (i : Int) then some z.enc else (if 0 ≤ j then (zf j.toNat).map Sz.enc else none)) = (if 0 ≤ j then (if j.toNat = i then some z else zf j.toNat).map Sz.enc else none)
    by_cases e : j = (i : Int)
    · subst e
      rw [if_pos rfl, if_pos (by omega), if_pos (by simp)]; rfl
    · rw [if_neg (fun z => e (by injection z))]
      by_cases h : 0 ≤ j
      · rw [if_pos h, if_pos h, if_neg (by omega)]
      · rw [if_neg h, if_neg h]
/-- the sizes as they are read: a list, or the dict that is made -/
inductive SzA where
  | l (zs : List Sz) | d (zf : Nat → Option Sz) (n : Nat)
def SzA.sv : SzA → SV
  | .l zs => .dat (encSz zs)
  | .d _ _ => .ob 0
def SzA.mu : SzA → List Ct
  | .l _ => []
  | .d zf n => [.dK (szF zf) n]
def SzA.get : SzA → Nat → Option Sz
  | .l zs => fun i => zs[i]?
  | .d zf _ => zf
def SzA.inn : SzA → List Ct → Prop
  | .l _, _ => True
  | .d zf n, mu => mu[0]? = some (.dK (szF zf) n)
theorem SzA.inn_mu (a : SzA) (m : List Ct) : a.inn (a.mu ++ m) := by
  cases a with
  | l zs => trivial
  | d zf n => rfl
theorem SzA.inn_mu0 (a : SzA) : a.inn a.mu := by
  cases a with
  | l zs => trivial
  | d zf n => rfl
/-- sizes[i] -/
theorem we_sz {K : PySem.W.Frag} {to ti : TE} {ρ : Rho} {mu : List Ct} {Φ : SV → List Ct → Prop} (a : SzA) (h : WE K to ρ mu fun x mu1 => WE K ti ρ mu1 fun y mu2 => x = a.sv ∧ ∃ (i : Nat) (z : Sz), a.inn mu2 ∧ y = .dat (.int (i : Int)) ∧ a.get i = some z ∧ Φ (.dat z.enc) mu2) :
    WE K (tAlt (tOp (rIxL K) to ti) (tDGet to ti)) ρ mu Φ := by
  cases a with
  | l zs =>
    refine we_alt1 (we_op (we_mono h fun x m q => we_mono q ?_))
    rintro y m2 ⟨rfl, i, z, _, rfl, hz, q⟩
    exact wr_ixL isl_d (at_m hz) q
  | d zf n =>
    refine we_alt2 (we_dget (we_mono h fun x m q => we_mono q ?_))
    rintro y m2 ⟨rfl, i, z, hi, rfl, hz, q⟩
    exact ⟨0, szF zf, n, .inl (i : Int), z.enc, rfl, hi, rfl, szF_nat hz, q⟩
/-- how high the rows of a text are -/
def IsHigh (us : List Un) (H : Int) : Prop := (∃ u ∈ us, u.h = H) ∧ ∀ u ∈ us, u.h ≤ H
section
variable {P : Program} {w : World} {K : PySem.W.Frag} {mg : Str → Option Value} {base : Heap}
def S_text_width : PSpec ROg := ⟨fun x => [encLk x.lks, encP x.sp, .int (x.i : Int)], fun x => LkR x.lks (x.i + 1) ∧ x.sp[x.i]? = some x.p, fun x d => d = .int (roomP x.lks x.i x.p).2⟩
theorem ok_text_width (T : Top K mg) : Has P w K mg base 2 "text_width" ["looks", "spans", "node"] (spG K S_text_width.S) := by
  have h_look_at := ok_look_at (P := P) (w := w) (K := K) (base := base) T
  refine has_ok T.d_text_width sc_text_width (fun _ => rfl) (fun _ _ _ _ _ _ us hl => match us, hl with | [_, _, _], _ => rfl) (fun f cdv A outer s H E hr => ⟨_, (pss_one (ps_ret (pe_callB (call_max2 rfl) (by rfl) T.b_max bt_max (pa_cons pe_int (pa_cons (pe_op op_sub (pe_ix (ix_tupK (K := K) rfl) (pe_ix (ix_listK (K := K) rfl) (pv 1) (pv 2) (fun _ _ => rfl)) pe_int (fun _ _ => rfl)) (pe_op op_mul pe_int (pe_has h_look_at hr (by omega) (by rfl) (pa_cons (pv 0) (pa_cons (pv 2) (pa_cons pe_str pa_nil)))))) pa_nil))))), ?_⟩)
  rintro ⟨lks, sp, i, p⟩ hp
  simp only [cxOf, Cx.nox, Cx.wish, Cx.blk, S_text_width, N_text_width, startR, PSpec.S_args, PSpec.S_mu, PSpec.S_pre, PSpec.S_post, List.map_cons, List.map_nil, List.length_cons, List.length_nil, Nat.reduceAdd, Nat.reduceSub, List.replicate_succ, List.replicate_zero, List.cons_append, List.nil_append, List.append_nil] at hp ⊢
  obtain ⟨hL, hs⟩ := hp
  try simp only at hL hs
  have hin := hL.inset i (Nat.lt_succ_self _)
  walk_at "go"
  refine wr_ixL isl_d (at_m hs) ?_
  walk_at "go"
  refine lk_go (j := 3) hL.ok (Nat.lt_succ_self _) rfl ?_
  walk_at "go"
  refine wr_mul (.inl ⟨by omega, by omega⟩) ?_
  walk_at "go"
  exact ⟨rfl, _, rfl, rfl⟩

structure NAg where
  ns : List Nd
  lks : List (List Int)
  uus : List (List Un)
  sp : List (Int × Int)
  zf : Nat → Option Sz
  n : Nat
  i : Nat
  lv : Nat → Nat
/-- a text, and its aside is sized -/
def NAok (x : NAg) : Prop := Bk x.ns x.lv ∧ LkR x.lks x.ns.length ∧ UUOk x.ns x.uus ∧ SpW x.ns x.sp ∧ (∃ n, x.ns[x.i]? = some n ∧ n.kd.wu = true) ∧ ∀ j, asideOf x.ns x.i = some j → (j < x.ns.length ∧ ∃ z, x.zf j = some z)
/-- how many rows are narrower and by how much -/
def NarOk (x : NAg) (us : List Un) (c b : Int) : Prop := (asideOf x.ns x.i = none → c = 0 ∧ b = 0) ∧ ∀ j, asideOf x.ns x.i = some j → ∃ H z q, IsHigh us H ∧ x.zf j = some z ∧ x.sp[j]? = some q ∧ c = (z.h + H - 1) / H ∧ b = q.2
theorem NAok.elder {x : NAg} (h : NAok x) : x.ns.length ≤ 1000 ∧ ∃ n, x.ns[x.i]? = some n ∧ (x.i ≠ 0 → n.kd = .text → ∃ e : Nat, n.el = (e : Int) ∧ e < x.i) := by
  obtain ⟨hb, _, _, _, ⟨n, hn, _⟩, _⟩ := h
  refine ⟨hb.len, n, hn, fun h0 _ => ?_⟩
  obtain ⟨e, m, h1, h2, _⟩ := hb.eld x.i n (by omega) hn
  exact ⟨e, h1, h2⟩
def S_narrow_of : Spec NAg := ⟨fun x => [.dat (encB x.ns), .dat (encUU x.uus), .dat (encP x.sp), .ob 0, .dat (.int (x.i : Int))], fun x => [.dK (szF x.zf) x.n], NAok,
  fun x s mu => mu = [.dK (szF x.zf) x.n] ∧ ∃ c b, s = .dat (pr (c, b)) ∧ ∀ us, x.uus[x.i]? = some us → NarOk x us c b⟩
theorem ok_narrow_of (T : Top K mg) : Has P w K mg base 4 "narrow_of" ["book", "units", "spans", "sizes", "node"] (spG K S_narrow_of) := by
  have h_aside_of := ok_aside_of (P := P) (w := w) (K := K) (base := base) T
  have h_rows_high := ok_rows_high (P := P) (w := w) (K := K) (base := base) T
  refine has_ok T.d_narrow_of sc_narrow_of (fun _ => rfl) (fun _ _ _ _ _ _ us hl => match us, hl with | [_, _, _, _, _], _ => rfl) (fun f cdv A outer s H E hr => ⟨_, (pss_cons (ps_set (i := 5) sc_narrow_of.nd rfl (.inl rfl) (pe_has h_aside_of hr (by omega) (by rfl) (pa_cons (pv 0) (pa_cons (pv 4) pa_nil))))
      (pss_cons (ps_if (pt_cmpR op_isN (pv 5) pe_non (nomark _)) (pss_one (ps_ret (pe_tup (pa_cons pe_int (pa_cons pe_int pa_nil))))) pss_nil)
      (pss_cons (ps_set (i := 6) sc_narrow_of.nd rfl (.inl rfl) (pe_has h_rows_high hr (by omega) (by rfl) (pa_cons (pe_ix (ix_listK (K := K) rfl) (pv 1) (pv 4) (fun _ _ => rfl)) pa_nil)))
      (pss_one (ps_ret (pe_tup (pa_cons (pe_op op_fdiv (pe_op op_sub (pe_op op_add (pe_ix (ix_tupK (K := K) rfl) (pe_dget (hu_of hr) (pv 3) (pv 5) (fun _ _ => rfl)) pe_int (fun _ _ => rfl)) (pv 6)) pe_int) (pv 6)) (pa_cons (pe_ix (ix_tupK (K := K) rfl) (pe_ix (ix_listK (K := K) rfl) (pv 2) (pv 5) (fun _ _ => rfl)) pe_int (fun _ _ => rfl)) pa_nil)))))))), ?_⟩)
  rintro ⟨ns, lks, uus, sp, zf, zn, i, lv⟩ hp
  simp only [cxOf, Cx.nox, Cx.wish, Cx.blk, S_narrow_of, N_narrow_of, startR, PSpec.S_args, PSpec.S_mu, PSpec.S_pre, PSpec.S_post, List.map_cons, List.map_nil, List.length_cons, List.length_nil, Nat.reduceAdd, Nat.reduceSub, List.replicate_succ, List.replicate_zero, List.cons_append, List.nil_append, List.append_nil] at hp ⊢
  have hel := NAok.elder hp
  obtain ⟨hb, hL, hU, hsw, ⟨n, hn, hw⟩, has⟩ := id hp
  try simp only at hb hL hU hsw hn hw has hel
  have hi := (List.getElem?_eq_some_iff.mp hn).1
  have hu := getI (xs := uus) (i := i) (by rw [hU.1]; exact hi)
  obtain ⟨us, hue⟩ : ∃ us, uus[i]'(by rw [hU.1]; exact hi) = us := ⟨_, rfl⟩
  rw [hue] at hu
  obtain ⟨u1, u2, u3⟩ := hU.2 i us n hu hn hw
  walk_at "go"
  refine ⟨(ns, i), rfl, hel, fun d hd => ?_⟩
  simp only [S_aside_of] at hd
  subst hd
  cases hq : asideOf ns i with
  | none =>
    simp only [encON]
    walk_at "go"
    refine ⟨rfl, 0, 0, rfl, fun us' _ => ⟨fun _ => ⟨rfl, rfl⟩, fun j h => ?_⟩⟩
    simp only at h
    rw [hq] at h; cases h
  | some j =>
    obtain ⟨hj, z, hz⟩ := has j hq
    have hsj := getI (xs := sp) (i := j) (by rw [hsw.1]; exact hj)
    simp only [encON]
    walk_at "go"
    refine wr_ixL isl_d (at_m hu) ?_
    walk_at "go"
    refine ⟨us, rfl, ⟨u1, u2.1⟩, fun d hd => ?_⟩
    obtain ⟨H, rfl, hH1, hH2⟩ := hd
    have hHb : 1 ≤ H ∧ H ≤ 100 := by
      obtain ⟨u, hu, e⟩ := hH1
      have := u3 u hu
      omega
    walk_at "go"
    refine we_dget ?_
    walk_at "go"
    refine ⟨0, _, zn, .inl (j : Int), z.enc, rfl, rfl, rfl, szF_nat hz, ?_⟩
    walk_at "go"
    refine wr_fdiv ⟨by omega, by omega⟩ ?_
    walk_at "go"
    refine wr_ixL isl_d (at_m hsj) ?_
    walk_at "go"
    refine ⟨rfl, _, _, rfl, fun us' h' => ⟨fun h => ?_, fun j' h => ?_⟩⟩
    · simp only at h
      rw [hq] at h; cases h
    · simp only at h h'
      rw [hq] at h; cases h
      rw [hu] at h'; cases h'
      exact ⟨H, z, _, ⟨hH1, hH2⟩, hz, hsj, rfl, rfl⟩

/-- what a text's size says -/
def TxOk (ns : List Nd) (lks : List (List Int)) (uus : List (List Un)) (sp : List (Int × Int)) (get : Nat → Option Sz) (i : Nat) (z : Sz) : Prop :=
  0 ≤ z.h ∧ ∀ j, asideOf ns i = some j → ∃ us H zj q p, uus[i]? = some us ∧ IsHigh us H ∧ 1 ≤ H ∧ get j = some zj ∧ sp[j]? = some q ∧ sp[i]? = some p ∧ z.cnt = (zj.h + H - 1) / H ∧ RowsOk us (roomP lks i p).2 z.cnt q.2 z.rows
def S_text_size : Spec NAg := ⟨fun x => [.dat (encB x.ns), .dat (encLk x.lks), .dat (encUU x.uus), .dat (encP x.sp), .ob 0, .dat (.int (x.i : Int))], fun x => [.dK (szF x.zf) x.n], NAok,
  fun x s mu => mu = [.dK (szF x.zf) x.n] ∧ ∃ z : Sz, s = .dat z.enc ∧ TxOk x.ns x.lks x.uus x.sp x.zf x.i z⟩
theorem ok_text_size (T : Top K mg) : Has P w K mg base 6 "text_size" ["book", "looks", "units", "spans", "sizes", "node"] (spG K S_text_size) := by
  have h_narrow_of := ok_narrow_of (P := P) (w := w) (K := K) (base := base) T
  have h_broken := ok_broken (P := P) (w := w) (K := K) (base := base) T
  have h_text_width := ok_text_width (P := P) (w := w) (K := K) (base := base) T
  have h_rows_high := ok_rows_high (P := P) (w := w) (K := K) (base := base) T
  refine has_ok T.d_text_size sc_text_size (fun _ => rfl) (fun _ _ _ _ _ _ us hl => match us, hl with | [_, _, _, _, _, _], _ => rfl) (fun f cdv A outer s H E hr => ⟨_, (pss_cons (ps_set (i := 6) sc_text_size.nd rfl (.inl rfl) (pe_has h_narrow_of hr (by omega) (by rfl) (pa_cons (pv 0) (pa_cons (pv 2) (pa_cons (pv 3) (pa_cons (pv 4) (pa_cons (pv 5) pa_nil)))))))
      (pss_cons (ps_asg (pe_has h_broken hr (by omega) (by rfl) (pa_cons (pe_ix (ix_listK (K := K) rfl) (pv 2) (pv 5) (fun _ _ => rfl)) (pa_cons (pe_has h_text_width hr (by omega) (by rfl) (pa_cons (pv 1) (pa_cons (pv 3) (pa_cons (pv 5) pa_nil)))) (pa_cons (pv 6) pa_nil)))) (pg_tupK (K := K) rfl rfl (pgs_cons (pg_name (i := 7) sc_text_size.nd rfl (.inl rfl)) (pgs_cons (pg_name (i := 8) sc_text_size.nd rfl (.inl rfl)) pgs_nil))))
      (pss_one (ps_ret (pe_tup (pa_cons (pe_op op_mul (pe_callB (call_lenK (K := K) rfl) (by rfl) T.b_len bt_len (pa_cons (pv 7) pa_nil)) (pe_has h_rows_high hr (by omega) (by rfl) (pa_cons (pe_ix (ix_listK (K := K) rfl) (pv 2) (pv 5) (fun _ _ => rfl)) pa_nil))) (pa_cons (pv 7) (pa_cons (pv 8) (pa_cons (pe_ix (ix_tupK (K := K) rfl) (pv 6) pe_int (fun _ _ => rfl)) pa_nil))))))))), ?_⟩)
  rintro ⟨ns, lks, uus, sp, zf, zn, i, lv⟩ hp
  simp only [cxOf, Cx.nox, Cx.wish, Cx.blk, S_text_size, N_text_size, startR, PSpec.S_args, PSpec.S_mu, PSpec.S_pre, PSpec.S_post, List.map_cons, List.map_nil, List.length_cons, List.length_nil, Nat.reduceAdd, Nat.reduceSub, List.replicate_succ, List.replicate_zero, List.cons_append, List.nil_append, List.append_nil] at hp ⊢
  obtain ⟨hb, hL, hU, hsw, ⟨n, hn, hw⟩, has⟩ := id hp
  try simp only at hb hL hU hsw hn hw has
  have hi := (List.getElem?_eq_some_iff.mp hn).1
  have hu := getI (xs := uus) (i := i) (by rw [hU.1]; exact hi)
  obtain ⟨us, hue⟩ : ∃ us, uus[i]'(by rw [hU.1]; exact hi) = us := ⟨_, rfl⟩
  rw [hue] at hu
  obtain ⟨u1, u2, u3⟩ := hU.2 i us n hu hn hw
  have hsi := getI (xs := sp) (i := i) (by rw [hsw.1]; exact hi)
  obtain ⟨p, hpe⟩ : ∃ p, sp[i]'(by rw [hsw.1]; exact hi) = p := ⟨_, rfl⟩
  rw [hpe] at hsi
  have hrw := room_w (lks := lks) (i := i) (hsw.2 p (List.mem_of_getElem? hsi)) (hL.inset i hi).1
  walk_at "go"
  refine we_callM ?_
  walk_at "go"
  refine ⟨⟨ns, lks, uus, sp, zf, zn, i, lv⟩, [0], rfl, by simp, rfl, fun i hi => ?_, hp, ?_⟩
  · simp [S_narrow_of] at hi; simp [hi]
  rintro t mc ⟨rfl, c, b, rfl, hnar⟩
  have hnar := hnar us hu
  try simp only at hnar
  dsimp only [backV, putAll, List.drop, List.length_cons, List.length_nil, List.append_nil, lset0, lsetS, Nat.zero_add]
  have hwb : WB (roomP lks i p).2 b := by
    refine ⟨⟨by omega, by omega⟩, ?_⟩
    cases hq : asideOf ns i with
    | none =>
      have := (hnar.1 hq).2
      omega
    | some j =>
      obtain ⟨H, z, q, _, _, h3, _, h5⟩ := hnar.2 j hq
      have := hsw.2 q (List.mem_of_getElem? h3)
      omega
  walk_at "go"
  refine wr_ixL isl_d (at_m hu) ?_
  walk_at "go"
  refine ⟨⟨lks, sp, i, p⟩, rfl, ⟨hL.mono hi, hsi⟩, fun d hd => ?_⟩
  simp only [S_text_width] at hd
  subst hd
  walk_at "go"
  refine ⟨⟨us, (roomP lks i p).2, c, b⟩, rfl, ⟨u2, hwb⟩, fun d hd => ?_⟩
  obtain ⟨rows, sums, rfl, hr⟩ := hd
  try simp only at hr
  walk_at "go"
  refine wr_ixL isl_d (at_m hu) ?_
  walk_at "go"
  refine ⟨us, rfl, ⟨u1, u2.1⟩, fun d hd => ?_⟩
  obtain ⟨H, rfl, hH1, hH2⟩ := hd
  have hHb : 1 ≤ H ∧ H ≤ 100 := by
    obtain ⟨u, hu, e⟩ := hH1
    have := u3 u hu
    omega
  walk_at "go"
  refine wr_mul (.inr ⟨by omega, by omega⟩) ?_
  walk_at "go"
  refine ⟨rfl, ⟨_, rows, sums, c⟩, rfl, Int.mul_nonneg (by omega) (by omega), fun j hj => ?_⟩
  obtain ⟨H', z, q, h1, h2, h3, h4, h5⟩ := hnar.2 j hj
  have hHH : 1 ≤ H' := by
    obtain ⟨u, hu, e⟩ := h1.1
    have := u3 u hu
    omega
  exact ⟨us, H', z, q, p, hu, h1, hHH, h2, h3, hsi, h4, by rw [← h5]; exact hr⟩
end
end LP
end

section
set_option maxHeartbeats 4000000
/-! G8b: tops. -/
namespace LP
open PySem PySem.Spec PyProof.Rows L2
/-! ### data that compare -/
@[reducible] def tp (p : Nat × Int) : D := .tup [.int (p.1 : Int), .int p.2]
theorem prs_lay : ∀ ts : List (Nat × Int), D.plains (ts.map tp) = true ∧ PyData.canLayAll0 (D.pys (ts.map tp)) = true ∧ PyData.depthAll (D.pys (ts.map tp)) ≤ 3
  | [] => ⟨rfl, rfl, by simp [D.pys, PyData.depthAll]⟩
  | t :: r => by
    obtain ⟨h1, h2, h3⟩ := prs_lay r
    refine ⟨?_, ?_, ?_⟩
    · simp [D.plains, D.plain, h1]
    · simp [D.pys, D.py, PyData.canLayAll0, PyData.canLay0, h2]
    · simp [D.pys, D.py, PyData.depthAll, PyData.depth] at h3 ⊢
      omega
theorem prs_shaped (ts : List (Nat × Int)) : SeqAt.shaped (D.lst (ts.map tp)).py = true := by
  obtain ⟨h1, h2, h3⟩ := prs_lay ts
  unfold SeqAt.shaped
  simp [D.py, PyData.canLay0, PyData.depth, h2]
  omega
theorem prs_nil (ts : List (Nat × Int)) : PyData.eqv (D.lst (ts.map tp)).py (D.lst []).py = decide (ts = []) := by
  cases ts with
  | nil => rfl
  | cons t r => simp [D.py, D.pys, PyData.eqv, PyData.eqvAll]
theorem ints_lay : ∀ ts : List Int, D.plains (ts.map D.int) = true ∧ PyData.canLayAll0 (D.pys (ts.map D.int)) = true ∧ PyData.depthAll (D.pys (ts.map D.int)) ≤ 3
  | [] => ⟨rfl, rfl, by simp [D.pys, PyData.depthAll]⟩
  | t :: r => by
    obtain ⟨h1, h2, h3⟩ := ints_lay r
    refine ⟨?_, ?_, ?_⟩
    · simp [D.plains, D.plain, h1]
    · simp [D.pys, D.py, PyData.canLayAll0, PyData.canLay0, h2]
    · simp [D.pys, D.py, PyData.depthAll, PyData.depth] at h3 ⊢
      omega
theorem ints_shaped (ts : List Int) : SeqAt.shaped (D.lst (ts.map D.int)).py = true := by
  obtain ⟨h1, h2, h3⟩ := ints_lay ts
  unfold SeqAt.shaped
  simp [D.py, PyData.canLay0, PyData.depth, h2]
  omega
theorem ints_eqvA : ∀ ns ms : List Int, PyData.eqvAll (D.pys (ns.map D.int)) (D.pys (ms.map D.int)) = decide (ns = ms)
  | [], [] => rfl
  | [], _ :: _ => by simp [D.pys, PyData.eqvAll]
  | _ :: _, [] => by simp [D.pys, PyData.eqvAll]
  | n :: r, m :: s => by
    have := ints_eqvA r s
    have e : (n == m) = decide (n = m) := by by_cases h : n = m <;> simp [h]
    simp [D.pys, D.py, PyData.eqvAll, PyData.eqv, this, e]
theorem ints_eqv (ns ms : List Int) : PyData.eqv (D.lst (ns.map D.int)).py (D.lst (ms.map D.int)).py = decide (ns = ms) := by
  show PyData.eqvAll _ _ = _
  exact ints_eqvA ns ms

/-! ### where what a node holds begins -/
/-- heights as the sizes say them -/
def HgOk (get : Nat → Option Sz) (ks : List Nat) (hg : Nat → Int) : Prop := ∀ k ∈ ks, ∃ z, get k = some z ∧ hg k = z.h
theorem hg_of {get : Nat → Option Sz} {ks : List Nat} (h : ∀ k ∈ ks, ∃ z, get k = some z) : HgOk get ks fun k => ((get k).map Sz.h).getD 0 := fun k hk => by
  obtain ⟨z, hz⟩ := h k hk
  exact ⟨z, hz, by simp [hz]⟩
def kdAt (ns : List Nd) (k : Nat) : Option Kd := (ns[k]?).map Nd.kd
def tbStep (ns : List Nd) (lks : List (List Int)) (hg : Nat → Int) (st : List (Nat × Int) × Int) (k : Nat) : List (Nat × Int) × Int :=
  if kdAt ns k = some .aside then st else
    let top := if st.1 = [] then st.2 else st.2 + lk lks k 2
    match asideOf ns k with
    | none => (st.1 ++ [(k, top)], top + hg k)
    | some a => (st.1 ++ [(a, top), (k, top)], top + imax (hg a) (hg k))
def tbl (ns : List Nd) (lks : List (List Int)) (hg : Nat → Int) (ks : List Nat) : List (Nat × Int) × Int := ks.foldl (tbStep ns lks hg) ([], 0)
def TopsG (ns : List Nd) (lks : List (List Int)) (hg : Nat → Int) (i : Nat) (ts : List (Nat × Int)) (tot : Int) : Prop := ∃ ps N, Pl (lk lks i 7).toNat (cellsOf lks (hold ns i)) ps ∧ IsRows ps N ∧
  ts = ((hold ns i).zip ps).map (fun q => (q.1, ((ghHighs ps ((hold ns i).map hg) N).take q.2.r).sum)) ∧ tot = (ghHighs ps ((hold ns i).map hg) N).sum
/-- where what a node holds begins, and its height -/
def Tops (ns : List Nd) (lks : List (List Int)) (hg : Nat → Int) (i : Nat) (n : Nd) (ts : List (Nat × Int)) (tot : Int) : Prop :=
  if n.kd.cont = false then ts = [] ∧ tot = 0
  else if n.kd = .grid then TopsG ns lks hg i ts tot
  else if n.kd = .shelf then ts = (hold ns i).map (fun k => (k, 0)) ∧ (∃ k ∈ hold ns i, hg k = tot) ∧ ∀ k ∈ hold ns i, hg k ≤ tot
  else (ts, tot) = tbl ns lks hg (hold ns i)
theorem asideOf_hold {ns : List Nd} {i k j : Nat} (hk : k ∈ hold ns i) (h : asideOf ns k = some j) : j ∈ hold ns i ∧ ∃ m, ns[j]? = some m ∧ m.kd = .aside := by
  obtain ⟨hlt, n, hn, he⟩ := mem_hold2.mp hk
  unfold asideOf at h
  rw [hn] at h
  simp only [he, Int.toNat_natCast] at h
  split at h
  · cases h
  · split at h
    · cases h
    · cases q : (hold ns i)[(hold ns i).idxOf k - 1]? with
      | none => rw [q] at h; cases h
      | some a =>
        rw [q] at h
        simp only at h
        cases q2 : ns[a]? with
        | none => rw [q2] at h; cases h
        | some m =>
          rw [q2] at h
          simp only at h
          split at h
          · cases h
            exact ⟨List.mem_of_getElem? q, m, q2, by assumption⟩
          · cases h
theorem Pl.bound {cols : Nat} {cells : List (Nat × Nat)} {ps : List Plc} (h : Pl cols cells ps) (hc : ∀ p ∈ cells, p.2 ≤ 10) : ∀ (i : Nat) p, ps[i]? = some p → p.r + p.d ≤ 10 * (i + 1) := by
  intro i
  induction i using Nat.strongRecOn with
  | ind i ih =>
    intro p hp
    have hi : i < cells.length := by rw [← h.1]; exact (List.getElem?_eq_some_iff.mp hp).1
    obtain ⟨⟨wi, de⟩, hce⟩ : ∃ q, cells[i]? = some q := ⟨_, getI hi⟩
    obtain ⟨r, c, h1, h2⟩ := h.2 i _ _ hce
    rw [hp] at h1
    cases h1
    have hd : de ≤ 10 := hc _ (List.mem_of_getElem? hce)
    have hr : r ≤ 10 * i := by
      rcases Nat.lt_or_ge (10 * i) r with z | z
      · refine absurd (fun a b ha hb => ?_) (h2.row (10 * i) 0 z (by have := h2.fit; omega))
        cases q : tkOf (ps.take i) (10 * i + a) (0 + b) with
        | false => rfl
        | true =>
          exfalso
          unfold tkOf at q
          rw [List.any_eq_true] at q
          obtain ⟨q1, hq1, hq2⟩ := q
          obtain ⟨j, hj⟩ := List.getElem?_of_mem hq1
          have hjl := (List.getElem?_eq_some_iff.mp hj).1
          rw [List.length_take] at hjl
          rw [List.getElem?_take_of_lt (by omega)] at hj
          have := ih j (by omega) q1 hj
          unfold Plc.has at hq2
          have hq2 := of_decide_eq_true hq2
          omega
      · exact z
    simp only
    omega
section
variable {P : Program} {w : World} {K : PySem.W.Frag} {mg : Str → Option Value} {base : Heap}
structure TWg where
  ns : List Nd
  lks : List (List Int)
  a : SzA
  i : Nat
  lv : Nat → Nat
def TWok (x : TWg) : Prop := Bk x.ns x.lv ∧ LkR x.lks x.ns.length ∧ x.i < x.ns.length ∧ ∀ n, x.ns[x.i]? = some n → n.kd.cont = true → ∀ k ∈ hold x.ns x.i, ∃ z, x.a.get k = some z
def S_tops_in_grid : Spec TWg := ⟨fun x => [.dat (encB x.ns), .dat (encLk x.lks), x.a.sv, .dat (.int (x.i : Int))], fun x => x.a.mu, fun x => TWok x ∧ ∀ n, x.ns[x.i]? = some n → n.kd = .grid,
  fun x s mu => mu = x.a.mu ∧ ∃ hg ts tot, s = .dat (.tup [.lst (ts.map tp), .int tot]) ∧ HgOk x.a.get (hold x.ns x.i) hg ∧ TopsG x.ns x.lks hg x.i ts tot⟩
theorem ok_tops_in_grid (T : Top K mg) : Has P w K mg base 4 "tops_in_grid" ["book", "looks", "sizes", "node"] (spG K S_tops_in_grid) := by
  have h_holds := ok_holds (P := P) (w := w) (K := K) (base := base) T
  have h_look_at := ok_look_at (P := P) (w := w) (K := K) (base := base) T
  have h_grid_places := ok_grid_places (P := P) (w := w) (K := K) (base := base) T
  have h_grid_highs := ok_grid_highs (P := P) (w := w) (K := K) (base := base) T
  refine has_ok T.d_tops_in_grid sc_tops_in_grid (fun _ => rfl) (fun _ _ _ _ _ _ us hl => match us, hl with | [_, _, _, _], _ => rfl) (fun f cdv A outer s H E hr => ⟨_, (pss_cons (ps_set (i := 4) sc_tops_in_grid.nd rfl (.inl rfl) (pe_has h_holds hr (by omega) (by rfl) (pa_cons (pv 0) (pa_cons (pv 3) pa_nil))))
      (pss_cons (ps_setLc (i := 5) (own := [("one", 8)]) (g := (gName 8)) (tt := tYes) rfl sc_tops_in_grid.nd rfl rfl (sw_true rfl rfl rfl (by decide +kernel)) (pi_listK (K := K) rfl (pv 4)) (blkOk_by (N := N_tops_in_grid) (sc := defScope s_tops_in_grid) (by decide +kernel)) (fun _ _ _ _ _ => (pg_name (i := 8) sc_tops_in_grid.nd rfl (.inl rfl))) (fun _ _ _ _ _ => pts_nil) (fun _ _ _ _ _ => (pe_tup (pa_cons (pe_has h_look_at hr (by omega) (by rfl) (pa_cons (pv 1) (pa_cons (pv 8) (pa_cons pe_str pa_nil)))) (pa_cons (pe_has h_look_at hr (by omega) (by rfl) (pa_cons (pv 1) (pa_cons (pv 8) (pa_cons pe_str pa_nil)))) pa_nil)))))
      (pss_cons (ps_set (i := 6) sc_tops_in_grid.nd rfl (.inl rfl) (pe_has h_grid_places hr (by omega) (by rfl) (pa_cons (pe_has h_look_at hr (by omega) (by rfl) (pa_cons (pv 1) (pa_cons (pv 3) (pa_cons pe_str pa_nil)))) (pa_cons (pv 5) pa_nil))))
      (pss_cons (ps_set (i := 7) sc_tops_in_grid.nd rfl (.inr rfl) (pe_has h_grid_highs hr (by omega) (by rfl) (pa_cons (pv 6) (pa_cons (pe_lc (own := [("one", 8)]) (g := (gName 8)) (tt := tYes) rfl sc_tops_in_grid.nd (pi_listK (K := K) rfl (pv 4)) (blkOk_by (N := N_tops_in_grid) (sc := defScope s_tops_in_grid) (by decide +kernel)) (fun _ _ _ _ _ => (pg_name (i := 8) sc_tops_in_grid.nd rfl (.inl rfl))) (fun _ _ _ _ _ => pts_nil) (fun _ _ _ _ _ => (pe_ix (ix_tupK (K := K) rfl) (pe_alt (pe_ix (ix_listK (K := K) rfl) (pv 2) (pv 8) (fun _ _ => rfl)) (pe_dget (hu_of hr) (pv 2) (pv 8) (fun _ _ => rfl))) pe_int (fun _ _ => rfl)))) pa_nil))))
      (pss_one (ps_ret (pe_tup (pa_cons (pe_lc (own := [("one", 8), ("place", 9)]) (g := (gTup K 2 (gCons (gName 8) (gCons (gName 9) gNil)))) (tt := tYes) rfl sc_tops_in_grid.nd (pi_zipK (K := K) rfl (by rfl) T.b_zip (pa_cons (pv 4) (pa_cons (pv 6) pa_nil))) (blkOk_by (N := N_tops_in_grid) (sc := defScope s_tops_in_grid) (by decide +kernel)) (fun _ _ _ _ _ => (pg_tupK (K := K) rfl rfl (pgs_cons (pg_name (i := 8) sc_tops_in_grid.nd rfl (.inl rfl)) (pgs_cons (pg_name (i := 9) sc_tops_in_grid.nd rfl (.inl rfl)) pgs_nil)))) (fun _ _ _ _ _ => pts_nil) (fun _ _ _ _ _ => (pe_tup (pa_cons (pv 8) (pa_cons (pe_callB (cr_sumK (K := K) rfl rfl) (by rfl) T.b_sum bt_sum (pa_cons (pe_slice (sl_listK (K := K) rfl) (pv 7) po_none (po_some (pe_ix (ix_tupK (K := K) rfl) (pv 9) pe_int (fun _ _ => rfl)))) pa_nil)) pa_nil))))) (pa_cons (pe_callB (cr_sumK (K := K) rfl rfl) (by rfl) T.b_sum bt_sum (pa_cons (pv 7) pa_nil)) pa_nil))))))))), ?_⟩)
  rintro ⟨ns, lks, a, i, lv⟩ hp
  simp only [cxOf, Cx.nox, Cx.wish, Cx.blk, S_tops_in_grid, N_tops_in_grid, startR, PSpec.S_args, PSpec.S_mu, PSpec.S_pre, PSpec.S_post, List.map_cons, List.map_nil, List.length_cons, List.length_nil, Nat.reduceAdd, Nat.reduceSub, List.replicate_succ, List.replicate_zero, List.cons_append, List.nil_append, List.append_nil] at hp ⊢
  obtain ⟨⟨hb, hL, hi, hsz⟩, hgr⟩ := hp
  try simp only at hb hL hi hsz hgr
  have hnl := hb.len
  have hn := getI hi
  have hkd := hgr _ hn
  have hsz := hsz _ hn (by rw [hkd]; rfl)
  have hhl := hold_len (ns := ns) (i := i)
  have hk : ∀ k ∈ hold ns i, k < ns.length := fun k hk => (mem_hold.mp hk).1
  have hc := hL.columns i hi
  obtain ⟨hg, hhg⟩ : ∃ hg, HgOk a.get (hold ns i) hg := ⟨_, hg_of hsz⟩
  walk_at "go"
  refine ⟨(ns, i), rfl, ⟨hi, hnl⟩, fun d hd => ?_⟩
  simp only [S_holds] at hd
  subst hd
  walk_at "go"
  refine we_lcM (α := Nat) (gin_name (by decide)) (wi_list ?_)
  walk_at "go"
  refine ⟨hold ns i, fun j => .int (j : Int), fun k => .tup [.int (((lk lks k 8).toNat : Nat) : Int), .int (((lk lks k 9).toNat : Nat) : Int)], rfl, by omega, rfl, fun j k hkk => ?_, ?_⟩
  · have hkm := hk k (List.mem_of_getElem? hkk)
    have h8 := hL.span k hkm
    have h9 := hL.deep k hkm
    walk_at "go"
    refine ⟨rfl, ?_⟩
    walk_at "go"
    refine lk_go (j := 8) hL.ok hkm rfl ?_
    walk_at "go"
    refine lk_go (j := 9) hL.ok hkm rfl ?_
    exact ⟨rfl, by rw [show (((lk lks k 8).toNat : Nat) : Int) = lk lks k 8 by omega, show (((lk lks k 9).toNat : Nat) : Int) = lk lks k 9 by omega]⟩
  have ec : ((hold ns i).map fun k => D.tup [.int (((lk lks k 8).toNat : Nat) : Int), .int (((lk lks k 9).toNat : Nat) : Int)]) = (cellsOf lks (hold ns i)).map fun p => .tup [.int (p.1 : Int), .int (p.2 : Int)] := by
    unfold cellsOf; rw [List.map_map]; rfl
  rw [ec]
  walk_at "go"
  refine lk_go (j := 7) hL.ok hi rfl ?_
  obtain ⟨c, hcc⟩ : ∃ c : Nat, lk lks i 7 = (c : Int) := ⟨(lk lks i 7).toNat, by omega⟩
  have hct : (lk lks i 7).toNat = c := by omega
  rw [hcc]
  walk_at "go"
  have hcells : ∀ p ∈ cellsOf lks (hold ns i), p.1 ≤ 10 ∧ p.2 ≤ 10 := fun p hp => by
    obtain ⟨k, hkk, rfl⟩ := List.mem_map.mp hp
    have h8 := hL.span k (hk k hkk)
    have h9 := hL.deep k (hk k hkk)
    exact ⟨by simp only; omega, by simp only; omega⟩
  have hclen : (cellsOf lks (hold ns i)).length = (hold ns i).length := by unfold cellsOf; simp
  refine ⟨(c, cellsOf lks (hold ns i)), rfl, ⟨by show 1 ≤ c; omega, by show c ≤ 10; omega, by show (cellsOf lks (hold ns i)).length ≤ 1000; omega, hcells⟩, fun d hd => ?_⟩
  obtain ⟨ps, rfl, hP⟩ := hd
  try simp only at hP
  have hpl : ps.length = (hold ns i).length := by rw [hP.1, hclen]
  walk_at "go"
  refine we_lcM (α := Nat) (gin_name (by decide)) (wi_list ?_)
  walk_at "go"
  refine ⟨hold ns i, fun j => .int (j : Int), fun k => .int (hg k), rfl, by omega, rfl, fun j k hkk => ?_, ?_⟩
  · obtain ⟨z, hz, hzh⟩ := hhg k (List.mem_of_getElem? hkk)
    walk_at "go"
    refine ⟨rfl, ?_⟩
    walk_at "go"
    refine we_sz a ?_
    walk_at "go"
    refine ⟨rfl, k, z, a.inn_mu0, rfl, hz, ?_⟩
    walk_at "go"
    exact ⟨rfl, by rw [hzh]⟩
  have eh : ((hold ns i).map fun k => D.int (hg k)) = ((hold ns i).map hg).map D.int := by rw [List.map_map]; rfl
  rw [eh]
  walk_at "go"
  have hpb := hP.bound (fun p hp => (hcells p hp).2)
  refine ⟨(ps, (hold ns i).map hg), rfl, ⟨by show ps.length ≤ 1000; omega, by show ps.length = ((hold ns i).map hg).length; rw [List.length_map]; exact hpl, fun p hp => ?_⟩, fun d hd => ?_⟩
  · obtain ⟨j, hj⟩ := List.getElem?_of_mem hp
    have h1 := hpb j p hj
    have h2 : j < ps.length := (List.getElem?_eq_some_iff.mp hj).1
    omega
  obtain ⟨N, hN, rfl⟩ := hd
  walk_at "go"
  refine we_lcM (α := Nat × Plc) (gin_tup (gin_cons (gin_name (by decide)) (gin_cons (gin_name (by decide)) gin_nil))) (wi_zip ?_)
  walk_at "go"
  refine ⟨_, _, rfl, (hold ns i).zip ps, fun q => .tup [.int (q.1 : Int), q.2.enc], fun q => tp (q.1, ((ghHighs ps ((hold ns i).map hg) N).take q.2.r).sum), ?_, by rw [List.length_zip]; omega, rfl, fun j q hq => ?_, ?_⟩
  · unfold zipD
    rw [List.zip_map, List.map_map]; rfl
  · walk_at "go"
    refine ⟨rfl, ?_⟩
    walk_at "go"
    refine ⟨_, isl_d, ?_⟩
    walk_at "go"
    rw [cut_to, ← List.map_take]
    refine wc_sum isl_d ?_
    walk_at "go"
    exact ⟨rfl, rfl⟩
  walk_at "go"
  refine wc_sum isl_d ?_
  walk_at "go"
  refine ⟨by rw [List.take_length], hg, ((hold ns i).zip ps).map (fun q => (q.1, ((ghHighs ps ((hold ns i).map hg) N).take q.2.r).sum)), _, ?_, hhg, ps, N, by rw [hct]; exact hP, hN, rfl, rfl⟩
  rw [List.map_map]; rfl
end
end LP
end

section
set_option maxHeartbeats 4000000
/-! G8c: tops of columns, of all kinds. -/
namespace LP
open PySem PySem.Spec PyProof.Rows L2
theorem getL {m : List Ct} {c : Ct} : (m ++ [c])[m.length]? = some c := by rw [List.getElem?_append_right (Nat.le_refl _), Nat.sub_self]; rfl
theorem setL {m : List Ct} {c c' : Ct} : (m ++ [c]).set m.length c' = m ++ [c'] := by
  rw [List.set_append_right _ _ (Nat.le_refl _), Nat.sub_self]; rfl
/-- a call that reads the sizes -/
theorem we_callZ {K : PySem.W.Frag} {ρ : Rho} {mu : List Ct} {Φ : SV → List Ct → Prop} {t : TA} {γ : Type} {S : Spec γ} {E : XK} (a : SzA) (h : WA K t ρ mu fun ss mu' => ∃ x rest, ss = S.args x ∧ mu' = a.mu ++ rest ∧ S.mu x = a.mu ∧ (∀ s ∈ S.args x, s = a.sv ∨ ∃ d, s = .dat d) ∧ S.pre x ∧
    ∀ s mc, S.post x s mc → mc = a.mu ∧ ∃ d, s = .dat d ∧ Φ (.dat d) mu') : WE K (tCall (spG K S) [] E t) ρ mu Φ := by
  refine we_callM (fun g H ad σ Q St k => h g H ad σ Q St fun vs ss H1 ad1 mu1 S1 hs ⟨x, rest, e1, e2, e3, e4, e5, e6⟩ => k vs ss H1 ad1 mu1 S1 hs ?_)
  cases a with
  | l zs =>
    refine ⟨x, [], ?_, List.nodup_nil, by rw [e3]; rfl, fun i hi => ?_, e5, fun s mc hp => ?_⟩
    · rw [e1]
      refine (List.map_id _).symm.trans (List.map_congr_left fun s hs => ?_)
      rcases e4 s hs with rfl | ⟨d, rfl⟩ <;> rfl
    · rcases e4 _ hi with z | ⟨d, z⟩ <;> cases z
    · obtain ⟨rfl, d, rfl, q⟩ := e6 s mc hp
      have z : (putAll mu1 [] (SzA.l zs).mu ++ (SzA.l zs).mu.drop ([] : List Nat).length) = mu1 := by
        show mu1 ++ [] = mu1
        rw [List.append_nil]
      rw [z]; exact q
  | d zf n =>
    refine ⟨x, [0], ?_, by simp, by rw [e3, e2]; rfl, fun i hi => ?_, e5, fun s mc hp => ?_⟩
    · rw [e1]
      refine (List.map_id _).symm.trans (List.map_congr_left fun s hs => ?_)
      rcases e4 s hs with rfl | ⟨d, rfl⟩ <;> rfl
    · rcases e4 _ hi with z | ⟨d, z⟩
      · cases z; simp
      · cases z
    · obtain ⟨rfl, d, rfl, q⟩ := e6 s mc hp
      have z : (putAll mu1 [0] (SzA.d zf n).mu ++ (SzA.d zf n).mu.drop ([0] : List Nat).length) = mu1 := by
        rw [e2]; simp [putAll, SzA.mu]
      rw [z]; exact q
/-- those that begin with a node -/
def oth (ns : List Nd) (k : Nat) : List Nat := match asideOf ns k with
  | none => [k]
  | some a => [a, k]
section
variable {P : Program} {w : World} {K : PySem.W.Frag} {mg : Str → Option Value} {base : Heap}
def S_tops_below : Spec TWg := ⟨fun x => [.dat (encB x.ns), .dat (encLk x.lks), x.a.sv, .dat (.int (x.i : Int))], fun x => x.a.mu, fun x => TWok x ∧ ∀ n, x.ns[x.i]? = some n → n.kd.cont = true,
  fun x s mu => mu = x.a.mu ∧ ∃ hg ts tot, s = .dat (.tup [.lst (ts.map tp), .int tot]) ∧ HgOk x.a.get (hold x.ns x.i) hg ∧ (ts, tot) = tbl x.ns x.lks hg (hold x.ns x.i)⟩
theorem ok_tops_below (T : Top K mg) : Has P w K mg base 4 "tops_below" ["book", "looks", "sizes", "node"] (spG K S_tops_below) := by
  have h_holds := ok_holds (P := P) (w := w) (K := K) (base := base) T
  have h_aside_of := ok_aside_of (P := P) (w := w) (K := K) (base := base) T
  have h_look_at := ok_look_at (P := P) (w := w) (K := K) (base := base) T
  refine has_ok T.d_tops_below sc_tops_below (fun _ => rfl) (fun _ _ _ _ _ _ us hl => match us, hl with | [_, _, _, _], _ => rfl) (fun f cdv A outer s H E hr => ⟨_, (pss_cons (ps_set (i := 4) sc_tops_below.nd rfl (.inl rfl) (pe_lst pa_nil))
      (pss_cons (ps_set (i := 5) sc_tops_below.nd rfl (.inl rfl) pe_int)
      (pss_cons (ps_for PassesOwn.never rfl (pi_listK (K := K) rfl (pe_has h_holds hr (by omega) (by rfl) (pa_cons (pv 0) (pa_cons (pv 3) pa_nil)))) (pg_name (i := 6) sc_tops_below.nd rfl (.inl rfl)) (pss_one (ps_if (pt_cmpR op_ne (pe_ix (ix_tupK (K := K) rfl) (pe_ix (ix_listK (K := K) rfl) (pv 0) (pv 6) (fun _ _ => rfl)) pe_int (fun _ _ => rfl)) pe_str (nomark _)) (pss_cons (ps_set (i := 7) sc_tops_below.nd rfl (.inl rfl) (pe_lst (pa_cons (pv 6) pa_nil)))
      (pss_cons (ps_set (i := 8) sc_tops_below.nd rfl (.inl rfl) (pe_has h_aside_of hr (by omega) (by rfl) (pa_cons (pv 0) (pa_cons (pv 6) pa_nil))))
      (pss_cons (ps_if (pt_cmpR op_notN (pv 8) pe_non (nomark _)) (pss_one (ps_set (i := 7) sc_tops_below.nd rfl (.inl rfl) (pe_lst (pa_cons (pv 8) (pa_cons (pv 6) pa_nil))))) pss_nil)
      (pss_cons (ps_set (i := 9) sc_tops_below.nd rfl (.inr rfl) (pv 5))
      (pss_cons (ps_if (pt_cmpR (op_neDK (K := K) rfl hr.units) (pv 4) (pe_lst pa_nil) (nomark _)) (pss_one (ps_set (i := 9) sc_tops_below.nd rfl (.inr rfl) (pe_op op_add (pv 5) (pe_has h_look_at hr (by omega) (by rfl) (pa_cons (pv 1) (pa_cons (pv 6) (pa_cons pe_str pa_nil))))))) pss_nil)
      (pss_cons (ps_expr (pe_bmK (K := K) rfl PySem.F.plainAttrs_list PySem.F.slot_list_extend PySem.F.type_list_extend mt_extend (pv 4) (pa_cons (pe_lc (own := [("other", 10)]) (g := (gName 10)) (tt := tYes) rfl sc_tops_below.nd (pi_listK (K := K) rfl (pv 7)) (blkOk_by (N := N_tops_below) (sc := defScope s_tops_below) (by decide +kernel)) (fun _ _ _ _ _ => (pg_name (i := 10) sc_tops_below.nd rfl (.inl rfl))) (fun _ _ _ _ _ => pts_nil) (fun _ _ _ _ _ => (pe_tup (pa_cons (pv 10) (pa_cons (pv 9) pa_nil))))) pa_nil)))
      (pss_one (ps_set (i := 5) sc_tops_below.nd rfl (.inl rfl) (pe_op op_add (pv 9) (pe_callB (cr_maxK (K := K) rfl rfl) (by rfl) T.b_max bt_max (pa_cons (pe_lc (own := [("other", 10)]) (g := (gName 10)) (tt := tYes) rfl sc_tops_below.nd (pi_listK (K := K) rfl (pv 7)) (blkOk_by (N := N_tops_below) (sc := defScope s_tops_below) (by decide +kernel)) (fun _ _ _ _ _ => (pg_name (i := 10) sc_tops_below.nd rfl (.inl rfl))) (fun _ _ _ _ _ => pts_nil) (fun _ _ _ _ _ => (pe_ix (ix_tupK (K := K) rfl) (pe_alt (pe_ix (ix_listK (K := K) rfl) (pv 2) (pv 10) (fun _ _ => rfl)) (pe_dget (hu_of hr) (pv 2) (pv 10) (fun _ _ => rfl))) pe_int (fun _ _ => rfl)))) pa_nil))))))))))) pss_nil)))
      (pss_one (ps_ret (pe_tup (pa_cons (pv 4) (pa_cons (pv 5) pa_nil)))))))), ?_⟩)
  rintro ⟨ns, lks, a, i, lv⟩ hp
  simp only [cxOf, Cx.nox, Cx.wish, Cx.blk, S_tops_below, N_tops_below, startR, PSpec.S_args, PSpec.S_mu, PSpec.S_pre, PSpec.S_post, List.map_cons, List.map_nil, List.length_cons, List.length_nil, Nat.reduceAdd, Nat.reduceSub, List.replicate_succ, List.replicate_zero, List.cons_append, List.nil_append, List.append_nil] at hp ⊢
  obtain ⟨⟨hb, hL, hi, hsz⟩, hgr⟩ := hp
  try simp only at hb hL hi hsz hgr
  have hnl := hb.len
  have hn := getI hi
  have hcont := hgr _ hn
  have hsz := hsz _ hn hcont
  have hhl := hold_len (ns := ns) (i := i)
  obtain ⟨hg, hhg⟩ : ∃ hg, HgOk a.get (hold ns i) hg := ⟨_, hg_of hsz⟩
  walk_at "go"
  refine we_lstM0 ?_
  walk_at "go"
  refine ws_for (fun j ρ m => ∃ (x6 x7 x8 x9 x10 : Option SV), ρ = [some (.dat (encB ns)), some (.dat (encLk lks)), some a.sv, some (.dat (.int (i : Int))), some (.ob a.mu.length), some (.dat (.int (tbl ns lks hg ((hold ns i).take j)).2)), x6, x7, x8, x9, x10] ∧
    m = a.mu ++ [.lst ((tbl ns lks hg ((hold ns i).take j)).1.map tp)] ∧ (tbl ns lks hg ((hold ns i).take j)).1.length ≤ 2 * j) (wi_list ?_)
  walk_at "go"
  refine ⟨(ns, i), rfl, ⟨hi, hnl⟩, fun d hd => ?_⟩
  simp only [S_holds] at hd
  subst hd
  walk_at "go"
  refine ⟨⟨_, _, _, _, _, rfl, rfl, Nat.le_refl _⟩, ?_, ?_⟩
  · rintro j dd ρ m hd ⟨x6, x7, x8, x9, x10, rfl, rfl, hlen⟩
    obtain ⟨k, hkj, rfl⟩ := map_got hd
    have hj : j < (hold ns i).length := (List.getElem?_eq_some_iff.mp hkj).1
    have hkm := List.mem_of_getElem? hkj
    obtain ⟨n, hkn, hik, hkl, hke, _⟩ := hb.kid hn hkm
    have hstep : tbl ns lks hg ((hold ns i).take (j + 1)) = tbStep ns lks hg (tbl ns lks hg ((hold ns i).take j)) k := by
      unfold tbl
      rw [List.take_add_one, hkj, List.foldl_append]; rfl
    rw [hstep]
    generalize tbl ns lks hg ((hold ns i).take j) = st at hlen
    obtain ⟨fo, en⟩ := st
    simp only at hlen
    walk_at "go"
    refine wr_ixL isl_d (at_m hkn) ?_
    walk_at "go"
    refine ifn (fun hna => ?_) (fun has => ?_)
    · have hka : kdAt ns k ≠ some .aside := fun z => hna (by
        unfold kdAt at z
        rw [hkn] at z
        have : n.kd = .aside := Option.some.inj z
        rw [this]; rfl)
      walk_at "gi"
      refine we_lst1 ?_
      walk_at "gi"
      refine ⟨(ns, k), rfl, ⟨hnl, n, hkn, fun _ _ => ⟨i, hke, hik⟩⟩, fun d hd => ?_⟩
      simp only [S_aside_of] at hd
      subst hd
      walk_at "gi"
      refine ws_mid (fun ρ m => ∃ (x8 : Option SV), ρ = [some (.dat (encB ns)), some (.dat (encLk lks)), some a.sv, some (.dat (.int (i : Int))), some (.ob a.mu.length), some (.dat (.int en)), some (.dat (.int (k : Int))), some (.dat (encN (oth ns k))), x8, x9, x10] ∧ m = a.mu ++ [.lst (fo.map tp)]) ?_ ?_
      · unfold oth
        cases hq : asideOf ns k with
        | none =>
          simp only [encON]
          walk_at "go"
          exact ⟨_, rfl, rfl⟩
        | some b =>
          simp only [encON]
          walk_at "go"
          refine we_lst2 ?_
          walk_at "go"
          exact ⟨_, rfl, rfl⟩
      rintro ρ m ⟨x8, rfl, rfl⟩
      walk_at "gi"
      refine ws_mid (fun ρ m => ρ = [some (.dat (encB ns)), some (.dat (encLk lks)), some a.sv, some (.dat (.int (i : Int))), some (.ob a.mu.length), some (.dat (.int en)), some (.dat (.int (k : Int))), some (.dat (encN (oth ns k))), x8, some (.dat (.int (if fo = [] then en else en + lk lks k 2))), x10] ∧ m = a.mu ++ [.lst (fo.map tp)]) ?_ ?_
      · walk_at "go"
        refine we_lst0 ?_
        refine wr_neD (isl_m getL) isl_d (prs_lay fo).1 rfl (prs_shaped fo) (prs_shaped []) ?_
        rw [prs_nil]
        walk_at "go"
        refine ifn (fun z => ?_) (fun z => ?_)
        · walk_at "go"
          refine lk_go (j := 2) hL.ok hkl rfl ?_
          walk_at "go"
          rw [if_neg z]
          exact ⟨rfl, rfl⟩
        · walk_at "go"
          rw [if_pos z]
          exact ⟨rfl, rfl⟩
      rintro ρ m ⟨rfl, rfl⟩
      generalize htop : (if fo = [] then en else en + lk lks k 2) = top
      have hom : ∀ o ∈ oth ns k, o ∈ hold ns i := fun o ho => by
        unfold oth at ho
        cases hq : asideOf ns k with
        | none => rw [hq] at ho; rw [List.mem_singleton.mp ho]; exact hkm
        | some b =>
          rw [hq] at ho
          rcases List.mem_cons.mp ho with z | z
          · rw [z]; exact (asideOf_hold hkm hq).1
          · rw [List.mem_singleton.mp z]; exact hkm
      have hol : (oth ns k).length ≤ 2 := by
        unfold oth
        split <;> simp
      refine ws_seq (ws_drop (we_extend ?_))
      walk_at "go"
      refine ⟨_, _, rfl, getL, ?_⟩
      walk_at "go"
      refine we_lcM (α := Nat) (gin_name (by decide)) (wi_list ?_)
      walk_at "go"
      refine ⟨oth ns k, fun j => .int (j : Int), fun o => tp (o, top), rfl, by omega, rfl, fun j' o ho => ?_, ?_⟩
      · walk_at "go"
        refine ⟨rfl, ?_⟩
        walk_at "go"
        exact ⟨rfl, rfl⟩
      walk_at "go"
      refine ⟨_, _, rfl, getL, by rw [List.length_map, List.length_map]; omega, ?_⟩
      rw [setL]
      walk_at "go"
      refine we_lcM (α := Nat) (gin_name (by decide)) (wi_list ?_)
      walk_at "go"
      refine ⟨oth ns k, fun j => .int (j : Int), fun o => .int (hg o), rfl, by omega, rfl, fun j' o ho => ?_, ?_⟩
      · obtain ⟨z, hz, hzh⟩ := hhg o (hom o (List.mem_of_getElem? ho))
        walk_at "go"
        refine ⟨rfl, ?_⟩
        walk_at "go"
        refine we_sz a ?_
        walk_at "go"
        refine ⟨rfl, o, z, a.inn_mu _, rfl, hz, ?_⟩
        walk_at "go"
        exact ⟨rfl, by rw [hzh]⟩
      have eh : ((oth ns k).map fun o => D.int (hg o)) = ((oth ns k).map hg).map D.int := by rw [List.map_map]; rfl
      rw [eh]
      walk_at "go"
      refine wc_max isl_d (by unfold oth; cases asideOf ns k <;> simp) (fun mx hm1 hm2 => ?_)
      walk_at "go"
      have hfin : tbStep ns lks hg (fo, en) k = (fo ++ (oth ns k).map (fun o => (o, top)), top + mx) := by
        unfold tbStep
        rw [if_neg hka]
        simp only
        rw [htop]
        unfold oth at hm1 hm2 ⊢
        cases hq : asideOf ns k with
        | none =>
          rw [hq] at hm1
          simp at hm1
          simp [hm1]
        | some b =>
          rw [hq] at hm1 hm2
          simp at hm1 hm2
          have : imax (hg b) (hg k) = mx := by
            unfold imax
            split <;> omega
          simp only [this, List.map_cons, List.map_nil]
      rw [hfin]
      refine ⟨_, _, _, _, _, rfl, by rw [List.map_append, List.map_map]; rfl, ?_⟩
      rw [List.length_append, List.length_map]
      omega
    · have hka : kdAt ns k = some .aside := by
        unfold kdAt
        rw [hkn]
        exact congrArg some (Kd.inj (b := .aside) has)
      have hfin : tbStep ns lks hg (fo, en) k = (fo, en) := by
        unfold tbStep
        rw [if_pos hka]
      rw [hfin]
      walk_at "go"
      exact ⟨_, _, _, _, _, rfl, rfl, by omega⟩
  · rintro ρ m ⟨x6, x7, x8, x9, x10, rfl, rfl, hlen⟩
    rw [List.length_map, List.take_length]
    refine ws_freeze (mu1 := a.mu) rfl (Nat.le_refl _) ?_
    simp only [thaw, List.map_cons, List.map_nil, if_true]
    walk_at "go"
    exact ⟨by rw [List.take_length], hg, _, _, rfl, hhg, rfl⟩

def S_tops_within : Spec TWg := ⟨fun x => [.dat (encB x.ns), .dat (encLk x.lks), x.a.sv, .dat (.int (x.i : Int))], fun x => x.a.mu, TWok,
  fun x s mu => mu = x.a.mu ∧ ∃ hg ts tot, s = .dat (.tup [.lst (ts.map tp), .int tot]) ∧ ∀ n, x.ns[x.i]? = some n → (n.kd.cont = true → HgOk x.a.get (hold x.ns x.i) hg) ∧ Tops x.ns x.lks hg x.i n ts tot⟩
theorem sv_args (a : SzA) {b l i : D} : ∀ s ∈ [SV.dat b, .dat l, a.sv, .dat i], s = a.sv ∨ ∃ d, s = .dat d := fun s hs => by
  simp only [List.mem_cons, List.not_mem_nil, or_false] at hs
  rcases hs with rfl | rfl | rfl | rfl
  · exact .inr ⟨_, rfl⟩
  · exact .inr ⟨_, rfl⟩
  · exact .inl rfl
  · exact .inr ⟨_, rfl⟩
theorem ok_tops_within (T : Top K mg) : Has P w K mg base 5 "tops_within" ["book", "looks", "sizes", "node"] (spG K S_tops_within) := by
  have h_tops_in_grid := ok_tops_in_grid (P := P) (w := w) (K := K) (base := base) T
  have h_holds := ok_holds (P := P) (w := w) (K := K) (base := base) T
  have h_tops_below := ok_tops_below (P := P) (w := w) (K := K) (base := base) T
  obtain ⟨u_WITH_UNITS, m_WITH_UNITS, r_WITH_UNITS, k_WITH_UNITS⟩ := T.c_WITH_UNITS
  refine has_ok T.d_tops_within sc_tops_within (fun _ => rfl) (fun _ _ _ _ _ _ us hl => match us, hl with | [_, _, _, _], _ => rfl) (fun f cdv A outer s H E hr => ⟨_, (pss_cons (ps_set (i := 4) sc_tops_within.nd rfl (.inl rfl) (pe_ix (ix_tupK (K := K) rfl) (pe_ix (ix_listK (K := K) rfl) (pv 0) (pv 3) (fun _ _ => rfl)) pe_int (fun _ _ => rfl)))
      (pss_cons (ps_if (PW.pt (pw_or (pt_cmpR (op_inK (K := K) rfl) (pv 4) (pe_glob (by rfl) m_WITH_UNITS r_WITH_UNITS) (by rfl)) (pw_or1 (pt_cmpR op_eq (pv 4) pe_str (nomark _))))) (pss_one (ps_ret (pe_tup (pa_cons (pe_lst pa_nil) (pa_cons pe_int pa_nil))))) pss_nil)
      (pss_cons (ps_if (pt_cmpR op_eq (pv 4) pe_str (nomark _)) (pss_one (ps_ret (pe_has h_tops_in_grid hr (by omega) (by rfl) (pa_cons (pv 0) (pa_cons (pv 1) (pa_cons (pv 2) (pa_cons (pv 3) pa_nil))))))) pss_nil)
      (pss_cons (ps_if (pt_cmpR op_eq (pv 4) pe_str (nomark _)) (pss_cons (ps_set (i := 5) sc_tops_within.nd rfl (.inl rfl) (pe_has h_holds hr (by omega) (by rfl) (pa_cons (pv 0) (pa_cons (pv 3) pa_nil))))
      (pss_one (ps_ret (pe_tup (pa_cons (pe_lc (own := [("one", 6)]) (g := (gName 6)) (tt := tYes) rfl sc_tops_within.nd (pi_listK (K := K) rfl (pv 5)) (blkOk_by (N := N_tops_within) (sc := defScope s_tops_within) (by decide +kernel)) (fun _ _ _ _ _ => (pg_name (i := 6) sc_tops_within.nd rfl (.inl rfl))) (fun _ _ _ _ _ => pts_nil) (fun _ _ _ _ _ => (pe_tup (pa_cons (pv 6) (pa_cons pe_int pa_nil))))) (pa_cons (pe_callB (cr_maxK (K := K) rfl rfl) (by rfl) T.b_max bt_max (pa_cons (pe_lc (own := [("one", 6)]) (g := (gName 6)) (tt := tYes) rfl sc_tops_within.nd (pi_listK (K := K) rfl (pv 5)) (blkOk_by (N := N_tops_within) (sc := defScope s_tops_within) (by decide +kernel)) (fun _ _ _ _ _ => (pg_name (i := 6) sc_tops_within.nd rfl (.inl rfl))) (fun _ _ _ _ _ => pts_nil) (fun _ _ _ _ _ => (pe_ix (ix_tupK (K := K) rfl) (pe_alt (pe_ix (ix_listK (K := K) rfl) (pv 2) (pv 6) (fun _ _ => rfl)) (pe_dget (hu_of hr) (pv 2) (pv 6) (fun _ _ => rfl))) pe_int (fun _ _ => rfl)))) pa_nil)) pa_nil)))))) pss_nil)
      (pss_one (ps_ret (pe_has h_tops_below hr (by omega) (by rfl) (pa_cons (pv 0) (pa_cons (pv 1) (pa_cons (pv 2) (pa_cons (pv 3) pa_nil))))))))))), ?_⟩)
  rintro ⟨ns, lks, a, i, lv⟩ hp
  simp only [cxOf, Cx.nox, Cx.wish, Cx.blk, S_tops_within, N_tops_within, startR, PSpec.S_args, PSpec.S_mu, PSpec.S_pre, PSpec.S_post, List.map_cons, List.map_nil, List.length_cons, List.length_nil, Nat.reduceAdd, Nat.reduceSub, List.replicate_succ, List.replicate_zero, List.cons_append, List.nil_append, List.append_nil] at hp ⊢
  obtain ⟨hb, hL, hi, hsz⟩ := id hp
  try simp only at hb hL hi hsz
  have hnl := hb.len
  have hn := getI hi
  obtain ⟨n, hnn⟩ : ∃ n, ns[i] = n := ⟨_, rfl⟩
  rw [hnn] at hn
  have hhl := hold_len (ns := ns) (i := i)
  have fin : ∀ {hg : Nat → Int} {ts : List (Nat × Int)} {tot : Int}, (n.kd.cont = true → HgOk a.get (hold ns i) hg) → Tops ns lks hg i n ts tot → ∀ n', ns[i]? = some n' → (n'.kd.cont = true → HgOk a.get (hold ns i) hg) ∧ Tops ns lks hg i n' ts tot := fun h1 h2 n' h => by
    rw [hn] at h; cases h; exact ⟨h1, h2⟩
  walk_at "go"
  refine wr_ixL isl_d (at_m hn) ?_
  walk_at "go"
  refine wr_inK ?_
  rw [kd_wu]
  walk_at "go"
  have hnt : n.kd.cont = false → Tops ns lks (fun _ => 0) i n [] 0 := fun hc => by
    unfold Tops
    rw [if_pos hc]
    exact ⟨rfl, rfl⟩
  cases hw : n.kd.wu with
  | true =>
    have hc : n.kd.cont = false := by cases q : n.kd <;> rw [q] at hw <;> first | rfl | (exact absurd hw (by decide))
    refine ift ⟨fun _ => ?_, fun z => (by cases z)⟩
    walk_at "go"
    refine we_lst0 ?_
    walk_at "go"
    exact ⟨by rw [List.take_length], fun _ => 0, [], 0, rfl, fin (fun z => by rw [hc] at z; cases z) (hnt hc)⟩
  | false =>
  refine iff' ?_
  walk_at "go"
  refine ifd (fun h => ?_) (fun hnp => ?_)
  · have hc : n.kd.cont = false := by rw [Kd.inj (b := .picture) h]; rfl
    walk_at "go"
    refine we_lst0 ?_
    walk_at "go"
    exact ⟨by rw [List.take_length], fun _ => 0, [], 0, rfl, fin (fun z => by rw [hc] at z; cases z) (hnt hc)⟩
  have hc : n.kd.cont = true := kd_not hw (fun e => hnp (by rw [e]; rfl))
  have hncf : ¬ n.kd.cont = false := by rw [hc]; decide
  have hsz' := hsz n hn hc
  walk_at "go"
  refine ifd (fun h => ?_) (fun hng => ?_)
  · have hkd : n.kd = .grid := Kd.inj (b := .grid) h
    refine ws_ret (we_callZ a ?_)
    walk_at "go"
    refine ⟨⟨ns, lks, a, i, lv⟩, [], rfl, by rw [List.append_nil], rfl, sv_args a, ⟨hp, fun n' h => by rw [hn] at h; cases h; exact hkd⟩, ?_⟩
    rintro s mc ⟨rfl, hg, ts, tot, rfl, h1, h2⟩
    refine ⟨rfl, _, rfl, ret_d ⟨by rw [List.take_length], hg, ts, tot, rfl, fin (fun _ => h1) ?_⟩⟩
    unfold Tops
    rw [if_neg hncf, if_pos hkd]
    exact h2
  have hng' : n.kd ≠ .grid := fun e => hng (by rw [e]; rfl)
  walk_at "go"
  refine ifd (fun h => ?_) (fun hns => ?_)
  · have hkd : n.kd = .shelf := Kd.inj (b := .shelf) h
    obtain ⟨hg, hhg⟩ : ∃ hg, HgOk a.get (hold ns i) hg := ⟨_, hg_of hsz'⟩
    walk_at "go"
    refine ⟨(ns, i), rfl, ⟨hi, hnl⟩, fun d hd => ?_⟩
    simp only [S_holds] at hd
    subst hd
    walk_at "go"
    refine we_lcM (α := Nat) (gin_name (by decide)) (wi_list ?_)
    walk_at "go"
    refine ⟨hold ns i, fun j => .int (j : Int), fun o => tp (o, 0), rfl, by omega, rfl, fun j' o ho => ?_, ?_⟩
    · walk_at "go"
      refine ⟨rfl, ?_⟩
      walk_at "go"
      exact ⟨rfl, rfl⟩
    walk_at "go"
    refine we_lcM (α := Nat) (gin_name (by decide)) (wi_list ?_)
    walk_at "go"
    refine ⟨hold ns i, fun j => .int (j : Int), fun o => .int (hg o), rfl, by omega, rfl, fun j' o ho => ?_, ?_⟩
    · obtain ⟨z, hz, hzh⟩ := hhg o (List.mem_of_getElem? ho)
      walk_at "go"
      refine ⟨rfl, ?_⟩
      walk_at "go"
      refine we_sz a ?_
      walk_at "go"
      refine ⟨rfl, o, z, a.inn_mu0, rfl, hz, ?_⟩
      walk_at "go"
      exact ⟨rfl, by rw [hzh]⟩
    have eh : ((hold ns i).map fun o => D.int (hg o)) = ((hold ns i).map hg).map D.int := by rw [List.map_map]; rfl
    rw [eh]
    walk_at "go"
    refine wc_max isl_d (by simpa using hb.full i n hn (.inl hkd)) (fun mx hm1 hm2 => ?_)
    walk_at "go"
    obtain ⟨k, hk, hkm⟩ := List.mem_map.mp hm1
    refine ⟨by rw [List.take_length], hg, (hold ns i).map (fun k => (k, 0)), mx, by rw [List.map_map]; rfl, fin (fun _ => hhg) ?_⟩
    unfold Tops
    rw [if_neg hncf, if_neg hng', if_pos hkd]
    exact ⟨rfl, ⟨k, hk, hkm⟩, fun k hk => hm2 _ (List.mem_map.mpr ⟨k, hk, rfl⟩)⟩
  have hns' : n.kd ≠ .shelf := fun e => hns (by rw [e]; rfl)
  walk_at "go"
  refine we_callZ a ?_
  walk_at "go"
  refine ⟨⟨ns, lks, a, i, lv⟩, [], rfl, by rw [List.append_nil], rfl, sv_args a, ⟨hp, fun n' h => by rw [hn] at h; cases h; exact hc⟩, ?_⟩
  rintro s mc ⟨rfl, hg, ts, tot, rfl, h1, h2⟩
  refine ⟨rfl, _, rfl, ret_d ⟨by rw [List.take_length], hg, ts, tot, rfl, fin (fun _ => h1) ?_⟩⟩
  unfold Tops
  rw [if_neg hncf, if_neg hng', if_neg hns']
  exact h2
end
end LP
end

section
set_option maxHeartbeats 4000000
/-! G8d: sizes of all nodes. -/
namespace LP
open PySem PySem.Spec PyProof.Rows L2
/-- nodes that stand one behind another, each with all that hangs in it -/
def Chain (en : Nat → Nat) : Nat → List Nat → Nat → Prop
  | a, [], b => a = b
  | a, k :: r, b => k = a ∧ Chain en (en k) r b
/-- the order of a book: en i is the first place behind all that hangs in i -/
structure Ord (ns : List Nd) (en : Nat → Nat) : Prop where
  rng : ∀ i, i < ns.length → i < en i ∧ en i ≤ ns.length
  chain : ∀ i, i < ns.length → Chain en (i + 1) (hold ns i) (en i)
  top : en 0 = ns.length
theorem chain_le {ns : List Nd} {en : Nat → Nat} (O : Ord ns en) : ∀ {ks : List Nat} {a b : Nat}, (∀ k ∈ ks, k < ns.length) → Chain en a ks b → a ≤ b
  | [], _, _, _, h => Nat.le_of_eq h
  | k :: r, a, b, hk, ⟨e, h⟩ => by
    have h1 := chain_le O (fun x hx => hk x (List.mem_cons_of_mem _ hx)) h
    have h2 := (O.rng k (hk k List.mem_cons_self)).1
    omega
theorem Bk.lv4 {ns : List Nd} {lv : Nat → Nat} (b : Bk ns lv) {i : Nat} {n : Nd} (hn : ns[i]? = some n) (h : n.kd ≠ .note) : lv i ≤ 4 := by
  rcases Nat.eq_zero_or_pos i with z | z
  · subst z
    have := b.lev 0 n hn (by rw [(b.root n hn).1]; rfl)
    omega
  · obtain ⟨e, m, h1, h2, h3, h4, h5, h6, h7, h8, h9⟩ := b.eld i n z hn
    have hc : m.kd.cont = true := by
      cases q : m.kd <;> first | rfl | (exact absurd q h6) | (exact absurd q h7) | (exact absurd (h8.mpr (.inl q)) h) | (exact absurd (h8.mpr (.inr q)) h)
    have := b.lev e m h3 hc
    omega
theorem Bk.lv5 {ns : List Nd} {lv : Nat → Nat} (b : Bk ns lv) {i : Nat} (hi : i < ns.length) : lv i ≤ 5 := by
  have hn := getI hi
  by_cases h : (ns[i]).kd = .note
  · rcases Nat.eq_zero_or_pos i with z | z
    · subst z
      rw [(b.root _ hn).1] at h; cases h
    · obtain ⟨e, m, h1, h2, h3, h4, h5, h6, h7, h8, h9⟩ := b.eld i _ z hn
      have := b.lv4 h3 h6
      omega
  · have := b.lv4 hn h
    omega
theorem asideOf_lt {ns : List Nd} {i k j : Nat} (hk : k ∈ hold ns i) (h : asideOf ns k = some j) : j < k := by
  obtain ⟨hlt, n, hn, he⟩ := mem_hold2.mp hk
  unfold asideOf at h
  rw [hn] at h
  simp only [he, Int.toNat_natCast] at h
  split at h
  · cases h
  · split at h
    · cases h
    · rename_i hne
      cases q : (hold ns i)[(hold ns i).idxOf k - 1]? with
      | none => rw [q] at h; cases h
      | some a =>
        rw [q] at h
        simp only at h
        have hix : (hold ns i).idxOf k < (hold ns i).length := List.idxOf_lt_length_iff.mpr hk
        have ek : (hold ns i)[(hold ns i).idxOf k]? = some k := by rw [getI hix, List.getElem_idxOf hix]
        have hak : a < k := by
          obtain ⟨q1, q2⟩ := List.getElem?_eq_some_iff.mp q
          obtain ⟨e1, e2⟩ := List.getElem?_eq_some_iff.mp ek
          have := List.pairwise_iff_getElem.mp (hold_sorted ns i) ((hold ns i).idxOf k - 1) ((hold ns i).idxOf k) q1 e1 (by omega)
          rw [q2, e2] at this
          exact this
        cases q2 : ns[a]? with
        | none => rw [q2] at h; cases h
        | some m =>
          rw [q2] at h
          simp only at h
          split at h
          · cases h; exact hak
          · cases h
/-- what a size says -/
def SzOk (ns : List Nd) (lks : List (List Int)) (uus : List (List Un)) (sp : List (Int × Int)) (get : Nat → Option Sz) (j : Nat) (z : Sz) : Prop :=
  ∀ n, ns[j]? = some n → (n.kd.wu = true → TxOk ns lks uus sp get j z) ∧ (n.kd = .picture → ∃ a : Int, n.st = .lst [.int a, .int z.h]) ∧ (n.kd.cont = true → ∃ hg ts, HgOk get (hold ns j) hg ∧ Tops ns lks hg j n ts z.h)
def Ext (zf zf' : Nat → Option Sz) : Prop := ∀ j z, zf j = some z → zf' j = some z
theorem SzOk.mono {ns : List Nd} {lks : List (List Int)} {uus : List (List Un)} {sp : List (Int × Int)} {g g' : Nat → Option Sz} {j : Nat} {z : Sz} (e : Ext g g') (h : SzOk ns lks uus sp g j z) : SzOk ns lks uus sp g' j z := fun n hn => by
  obtain ⟨h1, h2, h3⟩ := h n hn
  refine ⟨fun hw => ?_, h2, fun hc => ?_⟩
  · obtain ⟨a, b⟩ := h1 hw
    refine ⟨a, fun j hj => ?_⟩
    obtain ⟨us, H, zj, q, p, c1, c2, c3, c4, c5⟩ := b j hj
    exact ⟨us, H, zj, q, p, c1, c2, c3, e _ _ c4, c5⟩
  · obtain ⟨hg, ts, a, b⟩ := h3 hc
    exact ⟨hg, ts, fun k hk => let ⟨z, c1, c2⟩ := a k hk; ⟨z, e _ _ c1, c2⟩, b⟩
structure SNg where
  ns : List Nd
  lks : List (List Int)
  uus : List (List Un)
  sp : List (Int × Int)
  zf : Nat → Option Sz
  n : Nat
  i : Nat
  lv : Nat → Nat
  en : Nat → Nat
def SNok (d : Nat) (x : SNg) : Prop := Bk x.ns x.lv ∧ LkR x.lks x.ns.length ∧ UUOk x.ns x.uus ∧ SpW x.ns x.sp ∧ Ord x.ns x.en ∧ x.i < x.ns.length ∧ 6 ≤ x.lv x.i + d ∧ x.n ≤ x.i ∧ (∀ j, x.i ≤ j → j < x.en x.i → x.zf j = none) ∧ ∀ j, asideOf x.ns x.i = some j → (j < x.ns.length ∧ ∃ z, x.zf j = some z)
/-- all in [a, b) is sized -/
def Done (x : SNg) (zf' : Nat → Option Sz) (a b : Nat) : Prop := Ext x.zf zf' ∧ (∀ j, ¬ (a ≤ j ∧ j < b) → zf' j = x.zf j) ∧ ∀ j, a ≤ j → j < b → ∃ z, zf' j = some z ∧ SzOk x.ns x.lks x.uus x.sp zf' j z
section
variable {P : Program} {w : World} {K : PySem.W.Frag} {mg : Str → Option Value} {base : Heap}
def S_size_nodes (d : Nat) : Spec SNg := ⟨fun x => [.dat (encB x.ns), .dat (encLk x.lks), .dat (encUU x.uus), .dat (encP x.sp), .ob 0, .dat (.int (x.i : Int))], fun x => [.dK (szF x.zf) x.n], SNok d,
  fun x s mu => s = .dat .non ∧ ∃ zf', mu = [.dK (szF zf') (x.n + (x.en x.i - x.i))] ∧ Done x zf' x.i (x.en x.i)⟩
theorem size_nodes0 {d : Nat} (hd : d = 0) (T : Top K mg) : Has P w K mg base (7 + d) "size_nodes" ["book", "looks", "units", "spans", "sizes", "node"] (spG K (S_size_nodes 0)) := by
  subst hd
  refine has_ok T.d_size_nodes sc_size_nodes (fun _ => rfl) (fun _ _ _ _ _ _ us hl => match us, hl with | [_, _, _, _, _, _], _ => rfl) (fun f cdv A outer s H E hr => ⟨_, pss_never, fun y hy => ?_⟩)
  exfalso
  obtain ⟨hb, _, _, _, _, hi, h6, _⟩ := hy
  have := hb.lv5 hi
  omega
theorem ok_size_nodesS (d : Nat) (h_size_nodes : Has P w K mg base (7 + d) "size_nodes" ["book", "looks", "units", "spans", "sizes", "node"] (spG K (S_size_nodes d))) (T : Top K mg) : Has P w K mg base (7 + d + 1) "size_nodes" ["book", "looks", "units", "spans", "sizes", "node"] (spG K (S_size_nodes (d + 1))) := by
  have h_holds := ok_holds (P := P) (w := w) (K := K) (base := base) T
  have h_text_size := ok_text_size (P := P) (w := w) (K := K) (base := base) T
  have h_tops_within := ok_tops_within (P := P) (w := w) (K := K) (base := base) T
  obtain ⟨u_WITH_UNITS, m_WITH_UNITS, r_WITH_UNITS, k_WITH_UNITS⟩ := T.c_WITH_UNITS
  refine has_ok T.d_size_nodes sc_size_nodes (fun _ => rfl) (fun _ _ _ _ _ _ us hl => match us, hl with | [_, _, _, _, _, _], _ => rfl) (fun f cdv A outer s H E hr => ⟨_, (pss_cons (ps_for PassesOwn.never rfl (pi_listK (K := K) rfl (pe_has h_holds hr (by omega) (by rfl) (pa_cons (pv 0) (pa_cons (pv 5) pa_nil)))) (pg_name (i := 6) sc_size_nodes.nd rfl (.inl rfl)) (pss_one (ps_expr (pe_has h_size_nodes hr (by omega) (by rfl) (pa_cons (pv 0) (pa_cons (pv 1) (pa_cons (pv 2) (pa_cons (pv 3) (pa_cons (pv 4) (pa_cons (pv 6) pa_nil))))))))))
      (pss_cons (ps_set (i := 7) sc_size_nodes.nd rfl (.inl rfl) (pe_ix (ix_tupK (K := K) rfl) (pe_ix (ix_listK (K := K) rfl) (pv 0) (pv 5) (fun _ _ => rfl)) pe_int (fun _ _ => rfl)))
      (pss_one (ps_if (pt_cmpR (op_inK (K := K) rfl) (pv 7) (pe_glob (by rfl) m_WITH_UNITS r_WITH_UNITS) (by rfl)) (pss_one (ps_dput (hu_of hr) (pv 4) (pv 5) (pe_has h_text_size hr (by omega) (by rfl) (pa_cons (pv 0) (pa_cons (pv 1) (pa_cons (pv 2) (pa_cons (pv 3) (pa_cons (pv 4) (pa_cons (pv 5) pa_nil))))))) (by rfl))) (pss_one (ps_if (pt_cmpR op_eq (pv 7) pe_str (nomark _)) (pss_one (ps_dput (hu_of hr) (pv 4) (pv 5) (pe_tup (pa_cons (pe_ix (ix_listK (K := K) rfl) (pe_ix (ix_tupK (K := K) rfl) (pe_ix (ix_listK (K := K) rfl) (pv 0) (pv 5) (fun _ _ => rfl)) pe_int (fun _ _ => rfl)) pe_int (fun _ _ => rfl)) (pa_cons (pe_lst pa_nil) (pa_cons (pe_lst pa_nil) (pa_cons pe_int pa_nil))))) (by rfl))) (pss_one (ps_dput (hu_of hr) (pv 4) (pv 5) (pe_tup (pa_cons (pe_ix (ix_tupK (K := K) rfl) (pe_has h_tops_within hr (by omega) (by rfl) (pa_cons (pv 0) (pa_cons (pv 1) (pa_cons (pv 4) (pa_cons (pv 5) pa_nil))))) pe_int (fun _ _ => rfl)) (pa_cons (pe_lst pa_nil) (pa_cons (pe_lst pa_nil) (pa_cons pe_int pa_nil))))) (by rfl))))))))), ?_⟩)
  rintro ⟨ns, lks, uus, sp, zf, zn, i, lv, en⟩ hp
  simp only [cxOf, Cx.nox, Cx.wish, Cx.blk, S_size_nodes, N_size_nodes, startR, PSpec.S_args, PSpec.S_mu, PSpec.S_pre, PSpec.S_post, List.map_cons, List.map_nil, List.length_cons, List.length_nil, Nat.reduceAdd, Nat.reduceSub, List.replicate_succ, List.replicate_zero, List.cons_append, List.nil_append, List.append_nil] at hp ⊢
  obtain ⟨hb, hL, hU, hsw, hO, hi, h6, hzn, hnone, has⟩ := hp
  try simp only at hb hL hU hsw hO hi h6 hzn hnone has
  have hnl := hb.len
  have hn := getI hi
  obtain ⟨n, hnn⟩ : ∃ n, ns[i] = n := ⟨_, rfl⟩
  rw [hnn] at hn
  have hen := hO.rng i hi
  have hkl : ∀ k ∈ hold ns i, k < ns.length := fun k hk => (mem_hold.mp hk).1
  walk_at "go"
  refine ws_for (fun j ρ m => ∃ (a : Nat) (zf' : Nat → Option Sz) (x6 x7 : Option SV), ρ = [some (.dat (encB ns)), some (.dat (encLk lks)), some (.dat (encUU uus)), some (.dat (encP sp)), some (.ob 0), some (.dat (.int (i : Int))), x6, x7] ∧
    m = [.dK (szF zf') (zn + (a - (i + 1)))] ∧ i + 1 ≤ a ∧ Chain en a ((hold ns i).drop j) (en i) ∧ Done ⟨ns, lks, uus, sp, zf, zn, i, lv, en⟩ zf' (i + 1) a) (wi_list ?_)
  walk_at "go"
  refine ⟨(ns, i), rfl, ⟨hi, hnl⟩, fun d hd => ?_⟩
  simp only [S_holds] at hd
  subst hd
  walk_at "go"
  refine ⟨⟨i + 1, zf, _, _, rfl, by rw [Nat.sub_self]; rfl, Nat.le_refl _, hO.chain i hi, fun j z h => h, fun j _ => rfl, fun j h1 h2 => by omega⟩, ?_, ?_⟩
  · rintro j dd ρ m hd ⟨a, zf', x6, x7, rfl, rfl, ha, hch, hD1, hD2, hD3⟩
    obtain ⟨k, hkj, rfl⟩ := map_got hd
    have hj : j < (hold ns i).length := (List.getElem?_eq_some_iff.mp hkj).1
    have hkm := List.mem_of_getElem? hkj
    rw [List.drop_eq_getElem_cons hj, (List.getElem?_eq_some_iff.mp hkj).2] at hch
    obtain ⟨rfl, hch⟩ := hch
    obtain ⟨m, hm, hik, hkl', hke, hlv, _⟩ := hb.kid hn hkm
    have hek := hO.rng k hkl'
    have hle := chain_le hO (fun x hx => hkl x (List.mem_of_mem_drop hx)) hch
    walk_at "go"
    refine we_callM ?_
    walk_at "go"
    refine ⟨⟨ns, lks, uus, sp, zf', zn + (k - (i + 1)), k, lv, en⟩, [0], rfl, by simp, rfl, fun i hi => ?_, ⟨hb, hL, hU, hsw, hO, hkl', by show 6 ≤ lv k + d; omega, by show zn + (k - (i + 1)) ≤ k; omega, fun j' h1 h2 => ?_, fun j' h => ?_⟩, ?_⟩
    · simp [S_size_nodes] at hi; simp [hi]
    · show zf' j' = none
      rw [hD2 j' (by (try simp only at h1 ⊢); omega)]
      exact hnone j' (by (try simp only at h1); omega) (by (try simp only at h2); omega)
    · have h1 := (asideOf_hold hkm h).1
      have h2 := asideOf_lt hkm h
      have h3 := (mem_hold.mp h1).2.1
      obtain ⟨z, hz, _⟩ := hD3 j' (by omega) (by (try simp only at h2); omega)
      exact ⟨hkl j' h1, z, hz⟩
    rintro t mc ⟨rfl, zf'', rfl, hE1, hE2, hE3⟩
    try simp only at hE1 hE2 hE3
    refine ⟨en k, zf'', _, _, rfl, ?_, by omega, hch, fun j' z h => hE1 j' z (hD1 j' z h), fun j' h => ?_, fun j' h1 h2 => ?_⟩
    · show [Ct.dK (szF zf'') (zn + (k - (i + 1)) + (en k - k))] = _
      rw [show zn + (k - (i + 1)) + (en k - k) = zn + (en k - (i + 1)) by omega]
    · rw [hE2 j' (by omega)]
      exact hD2 j' (by (try simp only at h ⊢); omega)
    · rcases Nat.lt_or_ge j' k with z | z
      · obtain ⟨q, hq1, hq2⟩ := hD3 j' h1 z
        exact ⟨q, hE1 _ _ hq1, hq2.mono hE1⟩
      · exact hE3 j' z h2
  · rintro ρ m ⟨a, zf', x6, x7, rfl, rfl, ha, hch, hD1, hD2, hD3⟩
    rw [List.length_map, List.drop_length] at hch
    have hae : a = en i := hch
    subst hae
    have hzi : zf' i = none := by
      rw [hD2 i (by omega)]
      exact hnone i (Nat.le_refl _) hen.1
    -- the end, whatever the size is
    have fin : ∀ z : Sz, SzOk ns lks uus sp zf' i z → Done ⟨ns, lks, uus, sp, zf, zn, i, lv, en⟩ (updZ zf' i z) i (en i) := fun z hz => by
      have hx : Ext zf' (updZ zf' i z) := fun j q h => by
        unfold updZ
        rw [if_neg (fun e => by rw [e, hzi] at h; cases h)]; exact h
      refine ⟨fun j q h => hx j q (hD1 j q h), fun j h => ?_, fun j h1 h2 => ?_⟩
      · unfold updZ
        rw [if_neg (by (try simp only at h); omega)]
        exact hD2 j (by omega)
      · by_cases e : j = i
        · subst e
          exact ⟨z, by unfold updZ; rw [if_pos rfl], hz.mono hx⟩
        · obtain ⟨q, hq1, hq2⟩ := hD3 j (by omega) h2
          exact ⟨q, hx _ _ hq1, hq2.mono hx⟩
    have hcnt : zn + (en i - (i + 1)) + 1 = zn + (en i - i) := by omega
    walk_at "go"
    refine wr_ixL isl_d (at_m hn) ?_
    walk_at "go"
    refine wr_inK ?_
    rw [kd_wu]
    walk_at "go"
    cases hw : n.kd.wu with
    | true =>
      refine ift ?_
      refine ws_dput ?_
      refine we_callM ?_
      walk_at "go"
      refine ⟨⟨ns, lks, uus, sp, zf', _, i, lv⟩, [0], rfl, by simp, rfl, fun i hi => ?_, ⟨hb, hL, hU, hsw, ⟨n, hn, hw⟩, fun j h => ?_⟩, ?_⟩
      · simp [S_text_size] at hi; simp [hi]
      · obtain ⟨h1, z, h2⟩ := has j h
        exact ⟨h1, z, hD1 j z h2⟩
      rintro t mc ⟨rfl, z, rfl, hz⟩
      dsimp only [backV, putAll, List.drop, List.length_cons, List.length_nil, List.append_nil, lset0, lsetS, Nat.zero_add]
      walk_at "go"
      refine ⟨0, _, _, .inl (i : Int), rfl, rfl, rfl, by omega, ?_⟩
      refine ⟨trivial, updZ zf' i z, ?_, fin z fun n' h => ?_⟩
      · show [Ct.dK (fun j => if j = (.inl (i : Int) : Key) then some z.enc else szF zf' j) _] = _
        rw [szF_upd, hcnt]
      · rw [hn] at h; cases h
        exact ⟨fun _ => hz, fun e => (by rw [e] at hw; cases hw), fun e => (by cases q : n.kd <;> rw [q] at hw e <;> first | (exact absurd hw (by decide)) | (exact absurd e (by decide)))⟩
    | false =>
    refine iff' ?_
    walk_at "go"
    refine ifd (fun h => ?_) (fun hnp => ?_)
    · have hkd : n.kd = .picture := Kd.inj (b := .picture) h
      obtain ⟨pa, pb, hst, _⟩ := hb.pic i n hn hkd
      refine ws_dput ?_
      walk_at "go"
      refine wr_ixL isl_d (at_m hn) ?_
      walk_at "go"
      rw [hst]
      refine wr_ixL isl_d (d := .int pb) rfl ?_
      walk_at "go"
      refine we_lst0 ?_
      walk_at "go"
      refine we_lst0 ?_
      walk_at "go"
      refine ⟨0, _, _, .inl (i : Int), rfl, rfl, rfl, by omega, ?_⟩
      refine ⟨trivial, updZ zf' i ⟨pb, [], .lst [], 0⟩, ?_, fin ⟨pb, [], .lst [], 0⟩ fun n' h => ?_⟩
      · show [Ct.dK (fun j => if j = (.inl (i : Int) : Key) then some (Sz.enc ⟨pb, [], .lst [], 0⟩) else szF zf' j) _] = _
        rw [szF_upd, hcnt]
      · rw [hn] at h; cases h
        exact ⟨fun e => (by rw [hw] at e; cases e), fun _ => ⟨pa, hst⟩, fun e => (by rw [hkd] at e; cases e)⟩
    · have hc : n.kd.cont = true := kd_not hw (fun e => hnp (by rw [e]; rfl))
      refine ws_dput ?_
      walk_at "go"
      refine we_callZ (.d zf' (zn + (en i - (i + 1)))) ?_
      walk_at "go"
      refine ⟨⟨ns, lks, .d zf' (zn + (en i - (i + 1))), i, lv⟩, [], rfl, rfl, rfl, sv_args _, ⟨hb, hL, hi, fun n' h hc' k hk => ?_⟩, ?_⟩
      · have hkm := mem_hold.mp hk
        have hk2 := hb.kid hn hk
        have : k < en i := by
          have h1 := hO.chain i hi
          have : ∀ {ks : List Nat} {a b : Nat}, (∀ k ∈ ks, k < ns.length) → Chain en a ks b → ∀ k ∈ ks, k < b := by
            intro ks
            induction ks with
            | nil => intro a b _ _ k hk; cases hk
            | cons k0 r ih =>
              rintro a b hl ⟨rfl, hc⟩ k hk
              have hle := chain_le hO (fun x hx => hl x (List.mem_cons_of_mem _ hx)) hc
              rcases List.mem_cons.mp hk with e | e
              · subst e
                have := (hO.rng k (hl k List.mem_cons_self)).1
                omega
              · exact ih (fun x hx => hl x (List.mem_cons_of_mem _ hx)) hc k e
          exact this hkl h1 k hk
        obtain ⟨z, hz, _⟩ := hD3 k (by omega) this
        exact ⟨z, hz⟩
      rintro s mc ⟨rfl, hg, ts, tot, rfl, h1⟩
      refine ⟨rfl, _, rfl, ?_⟩
      walk_at "go"
      refine we_lst0 ?_
      walk_at "go"
      refine we_lst0 ?_
      walk_at "go"
      refine ⟨0, _, _, .inl (i : Int), rfl, rfl, rfl, by omega, ?_⟩
      refine ⟨trivial, updZ zf' i ⟨tot, [], .lst [], 0⟩, ?_, fin ⟨tot, [], .lst [], 0⟩ fun n' h => ?_⟩
      · show [Ct.dK (fun j => if j = (.inl (i : Int) : Key) then some (Sz.enc ⟨tot, [], .lst [], 0⟩) else szF zf' j) _] = _
        rw [szF_upd, hcnt]
      · rw [hn] at h; cases h
        obtain ⟨q1, q2⟩ := h1 n hn
        exact ⟨fun e => (by rw [hw] at e; cases e), fun e => absurd (by rw [e]; rfl) hnp, fun _ => ⟨hg, ts, q1 hc, q2⟩⟩
theorem ok_size_nodes (T : Top K mg) : Has P w K mg base 13 "size_nodes" ["book", "looks", "units", "spans", "sizes", "node"] (spG K (S_size_nodes 6)) :=
  ok_size_nodesS 5 (ok_size_nodesS 4 (ok_size_nodesS 3 (ok_size_nodesS 2 (ok_size_nodesS 1 (ok_size_nodesS 0 (size_nodes0 rfl T) T) T) T) T) T) T
structure AZg where
  ns : List Nd
  lks : List (List Int)
  uus : List (List Un)
  sp : List (Int × Int)
  lv : Nat → Nat
  en : Nat → Nat
def S_all_sizes : PSpec AZg := ⟨fun x => [encB x.ns, encLk x.lks, encUU x.uus, encP x.sp], fun x => Bk x.ns x.lv ∧ LkR x.lks x.ns.length ∧ UUOk x.ns x.uus ∧ SpW x.ns x.sp ∧ Ord x.ns x.en,
  fun x d => ∃ zs, d = encSz zs ∧ zs.length = x.ns.length ∧ ∀ (j : Nat) z, zs[j]? = some z → SzOk x.ns x.lks x.uus x.sp (fun k => zs[k]?) j z⟩
theorem ok_all_sizes (T : Top K mg) : Has P w K mg base 14 "all_sizes" ["book", "looks", "units", "spans"] (spG K S_all_sizes.S) := by
  have h_size_nodes := ok_size_nodes (P := P) (w := w) (K := K) (base := base) T
  refine has_ok T.d_all_sizes sc_all_sizes (fun _ => rfl) (fun _ _ _ _ _ _ us hl => match us, hl with | [_, _, _, _], _ => rfl) (fun f cdv A outer s H E hr => ⟨_, (pss_cons (ps_set (i := 4) sc_all_sizes.nd rfl (.inr rfl) pe_dnewK)
      (pss_cons (ps_expr (pe_has h_size_nodes hr (by omega) (by rfl) (pa_cons (pv 0) (pa_cons (pv 1) (pa_cons (pv 2) (pa_cons (pv 3) (pa_cons (pv 4) (pa_cons pe_int pa_nil))))))))
      (pss_one (ps_ret (pe_lc (own := [("node", 5)]) (g := (gName 5)) (tt := tYes) rfl sc_all_sizes.nd (pi_range1 (by rfl) T.b_range (pa_cons (pe_callB (call_lenK (K := K) rfl) (by rfl) T.b_len bt_len (pa_cons (pv 0) pa_nil)) pa_nil)) (blkOk_by (N := N_all_sizes) (sc := defScope s_all_sizes) (by decide +kernel)) (fun _ _ _ _ _ => (pg_name (i := 5) sc_all_sizes.nd rfl (.inl rfl))) (fun _ _ _ _ _ => pts_nil) (fun _ _ _ _ _ => (pe_dget (hu_of hr) (pv 4) (pv 5) (fun _ _ => rfl)))))))), ?_⟩)
  rintro ⟨ns, lks, uus, sp, lv, en⟩ hp
  simp only [cxOf, Cx.nox, Cx.wish, Cx.blk, S_all_sizes, N_all_sizes, startR, PSpec.S_args, PSpec.S_mu, PSpec.S_pre, PSpec.S_post, List.map_cons, List.map_nil, List.length_cons, List.length_nil, Nat.reduceAdd, Nat.reduceSub, List.replicate_succ, List.replicate_zero, List.cons_append, List.nil_append, List.append_nil] at hp ⊢
  obtain ⟨hb, hL, hU, hsw, hO⟩ := hp
  try simp only at hb hL hU hsw hO
  have hnl := hb.len
  have hpos := hb.pos
  walk_at "go"
  refine we_dnewK ?_
  walk_at "go"
  refine we_callM ?_
  walk_at "go"
  refine ⟨⟨ns, lks, uus, sp, fun _ => none, 0, 0, lv, en⟩, [0], rfl, by simp, ?_, fun i hi => ?_, ⟨hb, hL, hU, hsw, hO, hpos, by show 6 ≤ lv 0 + 6; omega, Nat.le_refl _, fun j _ _ => rfl, fun j h => ?_⟩, ?_⟩
  · have : szF (fun _ => none) = fun _ => none := by
      funext k
      cases k <;> simp [szF]
    show [some (Ct.dK (fun _ => none) 0)] = [some (Ct.dK (szF fun _ => none) 0)]
    rw [this]
  · simp [S_size_nodes] at hi; simp [hi]
  · exfalso
    simp only at h
    unfold asideOf at h
    rw [getI hpos] at h
    simp at h
  rintro t mc ⟨rfl, zf', rfl, _, _, hE3⟩
  try simp only at hE3
  rw [hO.top] at hE3
  dsimp only [backV, putAll, List.drop, List.length_cons, List.length_nil, List.append_nil, lset0, lsetS, Nat.zero_add]
  walk_at "go"
  refine we_lcM (α := Nat) (gin_name (by decide)) (wi_r1 ?_)
  walk_at "go"
  refine ⟨_, rfl, by rw [List.length_map]; omega, List.range ns.length, fun k => .int (0 + (k : Int)), fun k => ((zf' k).getD ⟨0, [], .non, 0⟩).enc, by unfold rngD; rw [List.length_map, Int.toNat_natCast], by simp; omega, rfl, fun j k hk => ?_, ?_⟩
  · have hkl : k < ns.length := by have := List.mem_of_getElem? hk; simpa using this
    obtain ⟨z, hz, _⟩ := hE3 k (Nat.zero_le _) hkl
    show WG K (gName 5) (.dat (.int (0 + (k : Int)))) _ _ _
    rw [show (0 : Int) + (k : Int) = (k : Int) by omega]
    walk_at "go"
    refine ⟨rfl, ?_⟩
    refine we_dget ?_
    walk_at "go"
    refine ⟨0, _, _, .inl (k : Int), z.enc, rfl, rfl, rfl, szF_nat hz, rfl, ?_⟩
    rw [hz]; rfl
  · walk_at "go"
    have hgz : ∀ (j : Nat) z, zf' j = some z → j < ns.length → ((List.range ns.length).map fun k => (zf' k).getD ⟨0, [], .non, 0⟩)[j]? = some z := fun j z h hj => by
      rw [List.getElem?_map, List.getElem?_range hj]
      simp [h]
    have hx : ∀ j, j < ns.length → ∃ z, zf' j = some z ∧ ((List.range ns.length).map fun k => (zf' k).getD ⟨0, [], .non, 0⟩)[j]? = some z := fun j hj => by
      obtain ⟨z, hz, _⟩ := hE3 j (Nat.zero_le _) hj
      exact ⟨z, hz, hgz j z hz hj⟩
    refine ⟨rfl, _, rfl, (List.range ns.length).map fun k => (zf' k).getD ⟨0, [], .non, 0⟩, by unfold encSz; rw [List.map_map]; rfl, by simp, fun j z hj => ?_⟩
    have hjl : j < ns.length := by have := (List.getElem?_eq_some_iff.mp hj).1; simpa using this
    obtain ⟨z', hz', hzo⟩ := hE3 j (Nat.zero_le _) hjl
    have e := hgz j z' hz' hjl
    rw [hj] at e
    cases e
    -- the nodes read lie in the book
    intro n hn
    obtain ⟨h1, h2, h3⟩ := hzo n hn
    refine ⟨fun hw => ?_, h2, fun hc => ?_⟩
    · obtain ⟨a, b⟩ := h1 hw
      refine ⟨a, fun k hk => ?_⟩
      obtain ⟨us, H, zj, q, p, c1, c2, c3, c4, c5, c6⟩ := b k hk
      have hkl : k < ns.length := by
        rw [← hsw.1]; exact (List.getElem?_eq_some_iff.mp c5).1
      exact ⟨us, H, zj, q, p, c1, c2, c3, hgz k zj c4 hkl, c5, c6⟩
    · obtain ⟨hg, ts, a, b⟩ := h3 hc
      exact ⟨hg, ts, fun k hk => let ⟨z, c1, c2⟩ := a k hk; ⟨z, hgz k z c1 (mem_hold.mp hk).1, c2⟩, b⟩
end
end LP
end

section
set_option maxHeartbeats 4000000
/-! G9: insides. -/
namespace LP
open PySem PySem.Spec PyProof.Rows L2
/-! ### who begins beside an aside -/
theorem asideOf_at {ns : List Nd} {i j k : Nat} {n : Nd} (hj : (hold ns i)[j]? = some k) (hn : ns[k]? = some n) : asideOf ns k = if n.kd ≠ .text ∨ j = 0 then none else match (hold ns i)[j - 1]? with
    | none => none
    | some a => if kdAt ns a = some .aside then some a else none := by
  have hk := List.mem_of_getElem? hj
  obtain ⟨hlt, n', hn', he⟩ := mem_hold2.mp hk
  rw [hn] at hn'; cases hn'
  have hjl := (List.getElem?_eq_some_iff.mp hj).1
  have hix : (hold ns i).idxOf k = j := by
    have h1 : (hold ns i).idxOf k < (hold ns i).length := List.idxOf_lt_length_iff.mpr hk
    have h2 : (hold ns i)[(hold ns i).idxOf k]? = some k := by rw [getI h1, List.getElem_idxOf h1]
    exact nd_ix (hold_nodup ns i) h2 hj
  unfold asideOf
  rw [hn]
  simp only [he, Int.toNat_natCast, hix]
  have hk0 : ¬ k = 0 := by omega
  by_cases h1 : n.kd = .text
  · by_cases h2 : j = 0
    · simp [h1, h2]
    · simp only [hk0, h1, h2, or_false, if_false, ne_eq, not_true_eq_false]
      cases q : (hold ns i)[j - 1]? with
      | none => rfl
      | some a =>
        obtain h | ⟨m, h⟩ : ns[a]? = none ∨ ∃ m, ns[a]? = some m := by cases ns[a]? <;> simp
        · simp [kdAt, h]
        · simp [kdAt, h]
  · simp [h1]
theorem kdAt_of {ns : List Nd} {k : Nat} {n : Nd} (h : ns[k]? = some n) : kdAt ns k = some n.kd := by unfold kdAt; rw [h]; rfl
/-- behind an aside comes a text -/
theorem Bk.next {ns : List Nd} {lv : Nat → Nat} (b : Bk ns lv) {i j k : Nat} (hj : (hold ns i)[j]? = some k) (h : kdAt ns k = some .aside) : ∃ k', (hold ns i)[j + 1]? = some k' ∧ kdAt ns k' = some .text := by
  have hk := List.mem_of_getElem? hj
  obtain ⟨hlt, n, hn, he⟩ := mem_hold2.mp hk
  have hkd : n.kd = .aside := by rw [kdAt_of hn] at h; exact Option.some.inj h
  obtain ⟨k', m, h1, h2, h3, h4, h5⟩ := b.asd k n hn hkd
  have hk' : k' ∈ hold ns i := mem_hold2.mpr ⟨by omega, m, h1, by rw [h3]; exact he⟩
  obtain ⟨j', hj'⟩ := List.getElem?_of_mem hk'
  have hs := hold_sorted ns i
  have hjl := (List.getElem?_eq_some_iff.mp hj).1
  have hjl' := (List.getElem?_eq_some_iff.mp hj').1
  have lt : ∀ {a b x y : Nat}, (hold ns i)[a]? = some x → (hold ns i)[b]? = some y → a < b → x < y := fun {a b x y} ha hb hab => by
    obtain ⟨q1, q2⟩ := List.getElem?_eq_some_iff.mp ha
    obtain ⟨q3, q4⟩ := List.getElem?_eq_some_iff.mp hb
    have := List.pairwise_iff_getElem.mp hs a b q1 q3 hab
    rw [q2, q4] at this; exact this
  have hjj : j < j' := by
    rcases Nat.lt_trichotomy j j' with z | z | z
    · exact z
    · subst z; rw [hj] at hj'; cases hj'; omega
    · have := lt hj' hj z; omega
  have : j' = j + 1 := by
    rcases Nat.lt_or_ge (j + 1) j' with z | z
    · exfalso
      have hm := getI (xs := hold ns i) (i := j + 1) (by omega)
      have h6 := lt hj hm (by omega)
      have h7 := lt hm hj' z
      obtain ⟨_, m', q1, q2⟩ := mem_hold2.mp (List.mem_of_getElem? hm)
      exact h5 _ m' h6 h7 q1 (by rw [q2]; exact he.symm)
    · omega
  subst this
  exact ⟨k', hj', by rw [kdAt_of h1, h2]⟩
theorem tbl_step {ns : List Nd} {lks : List (List Int)} {hg : Nat → Int} {ks : List Nat} {j k : Nat} (h : ks[j]? = some k) : tbl ns lks hg (ks.take (j + 1)) = tbStep ns lks hg (tbl ns lks hg (ks.take j)) k := by
  unfold tbl
  rw [List.take_add_one, h, List.foldl_append]; rfl
/-- columns: all that hangs is placed, in order -/
theorem tbl_nodes {ns : List Nd} {lv : Nat → Nat} (b : Bk ns lv) (lks : List (List Int)) (hg : Nat → Int) (i : Nat) : ∀ j, j ≤ (hold ns i).length →
    (tbl ns lks hg ((hold ns i).take j)).1.map Prod.fst = if j ≠ 0 ∧ ((hold ns i)[j - 1]?).bind (kdAt ns) = some .aside then (hold ns i).take (j - 1) else (hold ns i).take j
  | 0, _ => by simp [tbl]
  | j + 1, hj => by
    have ih := tbl_nodes b lks hg i j (by omega)
    have hk := getI (xs := hold ns i) (i := j) (by omega)
    obtain ⟨k, hke⟩ : ∃ k, (hold ns i)[j]'(by omega) = k := ⟨_, rfl⟩
    rw [hke] at hk
    obtain ⟨hlt, n, hn, he⟩ := mem_hold2.mp (List.mem_of_getElem? hk)
    rw [tbl_step hk]
    have e1 : ((hold ns i)[j + 1 - 1]?).bind (kdAt ns) = some n.kd := by
      rw [Nat.add_sub_cancel, hk]; exact kdAt_of hn
    rw [e1]
    unfold tbStep
    rw [kdAt_of hn]
    by_cases ha : n.kd = .aside
    · -- an aside: the one before is none
      rw [if_pos (by rw [ha]), if_pos ⟨by omega, by rw [ha]⟩, Nat.add_sub_cancel, ih]
      by_cases hp : j ≠ 0 ∧ ((hold ns i)[j - 1]?).bind (kdAt ns) = some .aside
      · exfalso
        have hq := getI (xs := hold ns i) (i := j - 1) (by omega)
        have h2 := hp.2
        rw [hq] at h2
        obtain ⟨k', h3, h4⟩ := b.next hq h2
        rw [show j - 1 + 1 = j by omega, hk] at h3
        cases h3
        rw [kdAt_of hn, ha] at h4; cases h4
      · rw [if_neg hp]
    · have hne : ¬ (some n.kd = some Kd.aside) := fun z => ha (Option.some.inj z)
      have e3 : ¬ (j + 1 ≠ 0 ∧ some n.kd = some Kd.aside) := fun z => hne z.2
      rw [if_neg hne, if_neg e3]
      simp only
      have e2 : (hold ns i).take (j + 1) = (hold ns i).take j ++ [k] := by rw [List.take_add_one, hk]; rfl
      rw [asideOf_at hk hn]
      by_cases hp : j ≠ 0 ∧ ((hold ns i)[j - 1]?).bind (kdAt ns) = some .aside
      · rw [if_pos hp] at ih
        have hq := getI (xs := hold ns i) (i := j - 1) (by omega)
        have h2 := hp.2
        rw [hq] at h2
        obtain ⟨k', h3, h4⟩ := b.next hq h2
        rw [show j - 1 + 1 = j by omega, hk] at h3
        cases h3
        have ht : n.kd = .text := by rw [kdAt_of hn] at h4; exact Option.some.inj h4
        have h5 : kdAt ns ((hold ns i)[j - 1]'(by omega)) = some .aside := h2
        rw [if_neg (by rintro (z | z); exact z ht; exact hp.1 z), hq]
        simp only [h5, if_true]
        rw [List.map_append, ih, e2]
        have e3 : (hold ns i).take j = (hold ns i).take (j - 1) ++ [(hold ns i)[j - 1]'(by omega)] := by
          have : j = j - 1 + 1 := by omega
          conv => lhs; rw [this, List.take_add_one, hq]
          rfl
        rw [e3]
        simp only [List.map_cons, List.map_nil, List.append_assoc, List.cons_append, List.nil_append]
      · rw [if_neg hp] at ih
        have hnone : (if n.kd ≠ .text ∨ j = 0 then none else match (hold ns i)[j - 1]? with
            | none => none
            | some a => if kdAt ns a = some .aside then some a else none) = none := by
          split
          · rfl
          · rename_i hz
            have hj0 : j ≠ 0 := fun z => hz (.inr z)
            have hq := getI (xs := hold ns i) (i := j - 1) (by omega)
            rw [hq]
            simp only
            rw [if_neg]
            intro z
            exact hp ⟨hj0, by rw [hq]; exact z⟩
        rw [hnone]
        simp only
        rw [List.map_append, ih, e2]; rfl
theorem tops_nodes {ns : List Nd} {lv : Nat → Nat} (b : Bk ns lv) {lks : List (List Int)} {hg : Nat → Int} {i : Nat} {n : Nd} {ts : List (Nat × Int)} {tot : Int} (hc : n.kd.cont = true) (h : Tops ns lks hg i n ts tot) : ts.map Prod.fst = hold ns i := by
  unfold Tops at h
  rw [if_neg (by rw [hc]; decide)] at h
  split at h
  · obtain ⟨ps, N, hP, _, h1, _⟩ := h
    rw [h1, List.map_map]
    have hl : ps.length = (hold ns i).length := by rw [hP.1]; unfold cellsOf; simp
    have : (Prod.fst ∘ fun (q : Nat × Plc) => (q.1, ((ghHighs ps ((hold ns i).map hg) N).take q.2.r).sum)) = Prod.fst := rfl
    rw [this, List.map_fst_zip (by omega)]
  · split at h
    · rw [h.1, List.map_map]
      exact List.map_id _
    · have h2 := tbl_nodes b lks hg i (hold ns i).length (Nat.le_refl _)
      rw [List.take_length, ← h] at h2
      simp only at h2
      rw [h2, if_neg]
      rintro ⟨h3, h4⟩
      have hq := getI (xs := hold ns i) (i := (hold ns i).length - 1) (by omega)
      rw [hq] at h4
      obtain ⟨k', h5, _⟩ := b.next hq h4
      have := (List.getElem?_eq_some_iff.mp h5).1
      omega

/-! ### boxes -/
structure Bx where
  k : Nat
  l : Int
  t : Int
  w : Int
  h : Int
@[reducible] def Bx.enc (b : Bx) : D := .tup [.int (b.k : Int), .int b.l, .int b.t, .int b.w, .int b.h]
def bwOf (ns : List Nd) (sp : List (Int × Int)) (k : Nat) : Int := match ns[k]? with
  | none => 0
  | some n => if n.kd = .picture then (match n.st with | .lst (.int a :: _) => a | _ => 0) else (sp.getD k (0, 0)).2
def hOf (zs : List Sz) (k : Nat) : Int := ((zs[k]?).map Sz.h).getD 0
def bxOf (ns : List Nd) (sp : List (Int × Int)) (zs : List Sz) (tf : Nat → Int) (k : Nat) : Bx := ⟨k, (sp.getD k (0, 0)).1, tf k, bwOf ns sp k, hOf zs k⟩
/-- those of [a, b) that are no notes -/
def nnr (ns : List Nd) (a b : Nat) : List Nat := (List.range' a (b - a)).filter fun k => decide (kdAt ns k ≠ some .note)
theorem nnr_nil {ns : List Nd} {a : Nat} : nnr ns a a = [] := by unfold nnr; rw [Nat.sub_self]; rfl
theorem nnr_app {ns : List Nd} {a b c : Nat} (h1 : a ≤ b) (h2 : b ≤ c) : nnr ns a c = nnr ns a b ++ nnr ns b c := by
  unfold nnr
  rw [← List.filter_append]
  congr 1
  have e : c - a = (b - a) + (c - b) := by omega
  rw [e, ← List.range'_append_1]
  congr 2
  omega
theorem nnr_one {ns : List Nd} {a : Nat} : nnr ns a (a + 1) = if kdAt ns a ≠ some .note then [a] else [] := by
  unfold nnr
  rw [Nat.add_sub_cancel_left]
  show List.filter _ [a] = _
  rw [List.filter_cons]
  by_cases h : kdAt ns a = some .note <;> simp [h]
theorem nnr_mem {ns : List Nd} {a b k : Nat} (h : k ∈ nnr ns a b) : a ≤ k ∧ k < b := by
  unfold nnr at h
  have := (List.mem_filter.mp h).1
  rw [List.mem_range'_1] at this
  omega
theorem nnr_len {ns : List Nd} {a b : Nat} : (nnr ns a b).length ≤ b - a := by
  unfold nnr
  have := List.length_filter_le (fun k => decide (kdAt ns k ≠ some .note)) (List.range' a (b - a))
  rwa [List.length_range'] at this
theorem chain_nn {ns : List Nd} {lv : Nat → Nat} {en : Nat → Nat} (b : Bk ns lv) (O : Ord ns en) : ∀ {ks : List Nat} {a c : Nat}, (∀ k ∈ ks, k < ns.length ∧ kdAt ns k = some .note) → Chain en a ks c → nnr ns a c = []
  | [], a, c, _, h => by
    have : a = c := h
    subst this
    exact nnr_nil
  | k :: r, a, c, hk, ⟨e, h⟩ => by
    subst e
    obtain ⟨h1, h2⟩ := hk k List.mem_cons_self
    have hl := chain_le O (fun x hx => (hk x (List.mem_cons_of_mem _ hx)).1) h
    have hen : en k = k + 1 := by
      have h3 := O.chain k h1
      have hn := getI h1
      have hh : hold ns k = [] := by
        cases q : hold ns k with
        | nil => rfl
        | cons x r =>
          exfalso
          obtain ⟨_, _, _, _, _, _, _, z, _⟩ := b.kid hn (j := x) (by rw [q]; exact List.mem_cons_self)
          rw [kdAt_of hn] at h2
          exact z (Option.some.inj h2)
      rw [hh] at h3
      exact h3.symm
    rw [hen] at hl h
    rw [nnr_app (Nat.le_succ k) hl, nnr_one, if_neg (by rw [h2]; simp), chain_nn b O (fun x hx => hk x (List.mem_cons_of_mem _ hx)) h]; rfl
structure INg where
  ns : List Nd
  lks : List (List Int)
  sp : List (Int × Int)
  zs : List Sz
  i : Nat
  top : Int
  lv : Nat → Nat
  en : Nat → Nat
def INok (d : Nat) (x : INg) : Prop := Bk x.ns x.lv ∧ LkR x.lks x.ns.length ∧ SpW x.ns x.sp ∧ x.zs.length = x.ns.length ∧ Ord x.ns x.en ∧ x.i < x.ns.length ∧ kdAt x.ns x.i ≠ some .note ∧ 6 ≤ x.lv x.i + d
/-- the boxes' tops, of a node and of what it holds -/
def TfOk (x : INg) (tf : Nat → Int) (a b : Nat) : Prop := ∀ (j : Nat) n, a ≤ j → j < b → x.ns[j]? = some n → n.kd.cont = true → ∃ hg ts tot, HgOk (fun k => x.zs[k]?) (hold x.ns j) hg ∧ Tops x.ns x.lks hg j n ts tot ∧ ∀ q ∈ ts, j < q.1 ∧ q.1 < b ∧ tf q.1 = tf j + q.2
section
variable {P : Program} {w : World} {K : PySem.W.Frag} {mg : Str → Option Value} {base : Heap}
structure BWg where
  ns : List Nd
  sp : List (Int × Int)
  i : Nat
  lv : Nat → Nat
def S_box_wide : PSpec BWg := ⟨fun x => [encB x.ns, encP x.sp, .int (x.i : Int)], fun x => Bk x.ns x.lv ∧ x.i < x.ns.length ∧ x.sp.length = x.ns.length, fun x d => d = .int (bwOf x.ns x.sp x.i)⟩
theorem ok_box_wide (T : Top K mg) : Has P w K mg base 1 "box_wide" ["book", "spans", "node"] (spG K S_box_wide.S) := by
  refine has_ok T.d_box_wide sc_box_wide (fun _ => rfl) (fun _ _ _ _ _ _ us hl => match us, hl with | [_, _, _], _ => rfl) (fun f cdv A outer s H E hr => ⟨_, (pss_cons (ps_if (pt_cmpR op_eq (pe_ix (ix_tupK (K := K) rfl) (pe_ix (ix_listK (K := K) rfl) (pv 0) (pv 2) (fun _ _ => rfl)) pe_int (fun _ _ => rfl)) pe_str (nomark _)) (pss_one (ps_ret (pe_ix (ix_listK (K := K) rfl) (pe_ix (ix_tupK (K := K) rfl) (pe_ix (ix_listK (K := K) rfl) (pv 0) (pv 2) (fun _ _ => rfl)) pe_int (fun _ _ => rfl)) pe_int (fun _ _ => rfl)))) pss_nil)
      (pss_one (ps_ret (pe_ix (ix_tupK (K := K) rfl) (pe_ix (ix_listK (K := K) rfl) (pv 1) (pv 2) (fun _ _ => rfl)) pe_int (fun _ _ => rfl))))), ?_⟩)
  rintro ⟨ns, sp, i, lv⟩ hp
  simp only [cxOf, Cx.nox, Cx.wish, Cx.blk, S_box_wide, N_box_wide, startR, PSpec.S_args, PSpec.S_mu, PSpec.S_pre, PSpec.S_post, List.map_cons, List.map_nil, List.length_cons, List.length_nil, Nat.reduceAdd, Nat.reduceSub, List.replicate_succ, List.replicate_zero, List.cons_append, List.nil_append, List.append_nil] at hp ⊢
  obtain ⟨hb, hi, hsl⟩ := hp
  try simp only at hb hi hsl
  have hn := getI hi
  obtain ⟨n, hnn⟩ : ∃ n, ns[i] = n := ⟨_, rfl⟩
  rw [hnn] at hn
  have hs := getI (xs := sp) (i := i) (by omega)
  walk_at "go"
  refine wr_ixL isl_d (at_m hn) ?_
  walk_at "go"
  refine ifd (fun h => ?_) (fun h => ?_)
  · have hkd : n.kd = .picture := Kd.inj (b := .picture) h
    obtain ⟨a, b, hst, _⟩ := hb.pic i n hn hkd
    walk_at "go"
    refine wr_ixL isl_d (at_m hn) ?_
    walk_at "go"
    rw [hst]
    refine wr_ixL isl_d (d := .int a) rfl ?_
    exact ⟨rfl, _, rfl, by unfold bwOf; simp only [hn, hkd, hst, if_true]⟩
  · have hkd : n.kd ≠ .picture := fun e => h (by rw [e]; rfl)
    walk_at "go"
    refine wr_ixL isl_d (at_m hs) ?_
    walk_at "go"
    exact ⟨rfl, _, rfl, by unfold bwOf; simp only [hn, if_neg hkd, getD_of hs]⟩
def S_insides (d : Nat) : PSpec INg := ⟨fun x => [encB x.ns, encLk x.lks, encP x.sp, encSz x.zs, .int (x.i : Int), .int x.top], fun x => INok d x ∧ (∀ k, k < x.ns.length → ∃ z, x.zs[k]? = some z),
  fun x d => ∃ tf : Nat → Int, d = .lst ((nnr x.ns x.i (x.en x.i)).map fun k => (bxOf x.ns x.sp x.zs tf k).enc) ∧ tf x.i = x.top ∧ TfOk x tf x.i (x.en x.i)⟩
theorem insides0 {d : Nat} (hd : d = 0) (T : Top K mg) : Has P w K mg base (6 + d) "insides" ["book", "looks", "spans", "sizes", "node", "top"] (spG K (S_insides 0).S) := by
  subst hd
  refine has_ok T.d_insides sc_insides (fun _ => rfl) (fun _ _ _ _ _ _ us hl => match us, hl with | [_, _, _, _, _, _], _ => rfl) (fun f cdv A outer s H E hr => ⟨_, pss_never, fun y hy => ?_⟩)
  exfalso
  obtain ⟨⟨hb, _, _, _, _, hi, _, h6⟩, _⟩ := hy
  have := hb.lv5 hi
  omega
theorem ok_insidesS (d : Nat) (S' : PSpec INg) (hS' : S' = S_insides d) (h_insides : Has P w K mg base (6 + d) "insides" ["book", "looks", "spans", "sizes", "node", "top"] (spG K S'.S)) (T : Top K mg) : Has P w K mg base (6 + d + 1) "insides" ["book", "looks", "spans", "sizes", "node", "top"] (spG K (S_insides (d + 1)).S) := by
  have h_box_wide := ok_box_wide (P := P) (w := w) (K := K) (base := base) T
  have h_tops_within := ok_tops_within (P := P) (w := w) (K := K) (base := base) T
  refine has_ok T.d_insides sc_insides (fun _ => rfl) (fun _ _ _ _ _ _ us hl => match us, hl with | [_, _, _, _, _, _], _ => rfl) (fun f cdv A outer s H E hr => ⟨_, (pss_cons (ps_set (i := 6) sc_insides.nd rfl (.inl rfl) (pe_lst (pa_cons (pe_tup (pa_cons (pv 4) (pa_cons (pe_ix (ix_tupK (K := K) rfl) (pe_ix (ix_listK (K := K) rfl) (pv 2) (pv 4) (fun _ _ => rfl)) pe_int (fun _ _ => rfl)) (pa_cons (pv 5) (pa_cons (pe_has h_box_wide hr (by omega) (by rfl) (pa_cons (pv 0) (pa_cons (pv 2) (pa_cons (pv 4) pa_nil)))) (pa_cons (pe_ix (ix_tupK (K := K) rfl) (pe_ix (ix_listK (K := K) rfl) (pv 3) (pv 4) (fun _ _ => rfl)) pe_int (fun _ _ => rfl)) pa_nil)))))) pa_nil)))
      (pss_cons (ps_for PassesOwn.never rfl (pi_listK (K := K) rfl (pe_ix (ix_tupK (K := K) rfl) (pe_has h_tops_within hr (by omega) (by rfl) (pa_cons (pv 0) (pa_cons (pv 1) (pa_cons (pv 3) (pa_cons (pv 4) pa_nil))))) pe_int (fun _ _ => rfl))) (pg_tupK (K := K) rfl rfl (pgs_cons (pg_name (i := 7) sc_insides.nd rfl (.inl rfl)) (pgs_cons (pg_name (i := 8) sc_insides.nd rfl (.inl rfl)) pgs_nil))) (pss_one (ps_expr (pe_bmK (K := K) rfl PySem.F.plainAttrs_list PySem.F.slot_list_extend PySem.F.type_list_extend mt_extend (pv 6) (pa_cons (pe_has h_insides hr (by omega) (by rfl) (pa_cons (pv 0) (pa_cons (pv 1) (pa_cons (pv 2) (pa_cons (pv 3) (pa_cons (pv 7) (pa_cons (pe_op op_add (pv 5) (pv 8)) pa_nil))))))) pa_nil)))))
      (pss_one (ps_ret (pv 6))))), ?_⟩)
  rintro ⟨ns, lks, sp, zs, i, top, lv, en⟩ hp
  simp only [cxOf, Cx.nox, Cx.wish, Cx.blk, S_insides, N_insides, startR, PSpec.S_args, PSpec.S_mu, PSpec.S_pre, PSpec.S_post, List.map_cons, List.map_nil, List.length_cons, List.length_nil, Nat.reduceAdd, Nat.reduceSub, List.replicate_succ, List.replicate_zero, List.cons_append, List.nil_append, List.append_nil] at hp ⊢
  obtain ⟨⟨hb, hL, hsw, hzl, hO, hi, hnote, h6⟩, hz⟩ := hp
  try simp only at hb hL hsw hzl hO hi hnote h6 hz
  have hnl := hb.len
  have hn := getI hi
  obtain ⟨n, hnn⟩ : ∃ n, ns[i] = n := ⟨_, rfl⟩
  rw [hnn] at hn
  have hs := getI (xs := sp) (i := i) (by rw [hsw.1]; exact hi)
  obtain ⟨z, hzi⟩ := hz i hi
  have hen := hO.rng i hi
  have hkl : ∀ k ∈ hold ns i, k < ns.length := fun k hk => (mem_hold.mp hk).1
  walk_at "go"
  refine we_lstM1 ?_
  walk_at "go"
  refine wr_ixL isl_d (at_m hs) ?_
  walk_at "go"
  refine ⟨⟨ns, sp, i, lv⟩, rfl, ⟨hb, hi, hsw.1⟩, fun d hd => ?_⟩
  simp only [S_box_wide] at hd
  subst hd
  walk_at "go"
  refine wr_ixL isl_d (at_m hzi) ?_
  walk_at "go"
  refine ws_forE (wi_list ?_)
  walk_at "go"
  refine we_callZ (.l zs) ?_
  walk_at "go"
  refine ⟨⟨ns, lks, .l zs, i, lv⟩, [_], rfl, rfl, rfl, sv_args _, ⟨hb, hL, hi, fun n' h hc' k hk => hz k (hkl k hk)⟩, ?_⟩
  rintro s mc ⟨rfl, hg, ts, tot, rfl, h1⟩
  obtain ⟨hH, hT⟩ := h1 n hn
  refine ⟨rfl, _, rfl, ?_⟩
  have htn : ts.map Prod.fst = if n.kd.cont = true then hold ns i else [] := by
    cases hc : n.kd.cont with
    | true => rw [if_pos rfl]; exact tops_nodes hb hc hT
    | false =>
      unfold Tops at hT
      rw [if_pos hc] at hT
      rw [hT.1]; rfl
  have htm : ∀ (j : Nat) q, ts[j]? = some q → n.kd.cont = true ∧ (hold ns i)[j]? = some q.1 := fun j q hq => by
    have h2 : (ts.map Prod.fst)[j]? = some q.1 := by rw [List.getElem?_map, hq]; rfl
    rw [htn] at h2
    cases hc : n.kd.cont with
    | true => rw [hc, if_pos rfl] at h2; exact ⟨rfl, h2⟩
    | false => rw [hc] at h2; simp at h2
  have htl : ts.length ≤ ns.length := by
    have := congrArg List.length htn
    rw [List.length_map] at this
    rw [this]
    split
    · exact hold_len
    · exact Nat.zero_le _
  walk_at "go"
  refine ⟨fun j ρ m => ∃ (a : Nat) (tf : Nat → Int) (x7 x8 : Option SV), ρ = [some (.dat (encB ns)), some (.dat (encLk lks)), some (.dat (encP sp)), some (.dat (encSz zs)), some (.dat (.int (i : Int))), some (.dat (.int top)), some (.ob 0), x7, x8] ∧
    m = [.lst ((nnr ns i a).map fun k => (bxOf ns sp zs tf k).enc)] ∧ i + 1 ≤ a ∧ (n.kd.cont = true → Chain en a ((hold ns i).drop j) (en i)) ∧ (n.kd.cont = false → a = i + 1) ∧ tf i = top ∧ TfOk ⟨ns, lks, sp, zs, i, top, lv, en⟩ tf (i + 1) a ∧ ∀ (j' : Nat) q, j' < j → ts[j']? = some q → i < q.1 ∧ q.1 < a ∧ tf q.1 = top + q.2,
    ⟨i + 1, fun _ => top, _, _, rfl, ?_, Nat.le_refl _, fun _ => hO.chain i hi, fun _ => rfl, rfl, fun j n h1 h2 => by omega, fun j' q h => by omega⟩, ?_, ?_⟩
  · rw [nnr_one, if_pos hnote]
    have e1 : hOf zs i = z.h := by unfold hOf; rw [hzi]; rfl
    simp only [List.map_cons, List.map_nil, bxOf, Bx.enc, e1, getD_of hs]
  · rintro j dd ρ m hd ⟨a, tf, x7, x8, rfl, rfl, ha, hch, _, htop, hTf, hts⟩
    obtain ⟨⟨k, t⟩, hkj, rfl⟩ := map_got hd
    obtain ⟨hc, hkh⟩ := htm j _ hkj
    simp only at hkh
    have hch2 := hch hc
    have hjl := (List.getElem?_eq_some_iff.mp hkh).1
    rw [List.drop_eq_getElem_cons hjl, (List.getElem?_eq_some_iff.mp hkh).2] at hch2
    obtain ⟨rfl, hch2⟩ := hch2
    obtain ⟨m, hm, hik, hkl', hke, hlv, _, hnn1, _, hnn2, _⟩ := hb.kid hn (List.mem_of_getElem? hkh)
    have hek := hO.rng k hkl'
    have hle := chain_le hO (fun x hx => hkl x (List.mem_of_mem_drop hx)) hch2
    have hknote : kdAt ns k ≠ some .note := fun e => by
      rw [kdAt_of hm] at e
      rcases hnn2.mp (Option.some.inj e) with q | q <;> (rw [q] at hc; cases hc)
    walk_at "go"
    refine we_extend ?_
    walk_at "go"
    subst hS'
    refine ⟨⟨ns, lks, sp, zs, k, top + t, lv, en⟩, rfl, ⟨⟨hb, hL, hsw, hzl, hO, hkl', hknote, by show 6 ≤ lv k + d; omega⟩, hz⟩, fun d hd => ?_⟩
    obtain ⟨tk, rfl, htk, hTk⟩ := hd
    try simp only at htk hTk
    walk_at "go"
    have l1 := nnr_len (ns := ns) (a := i) (b := k)
    have l2 := nnr_len (ns := ns) (a := k) (b := en k)
    refine ⟨_, _, rfl, rfl, by simp only [List.length_map]; omega, ?_⟩
    refine ⟨en k, fun x => if k ≤ x then tk x else tf x, _, _, rfl, ?_, by omega, fun _ => hch2, fun e => (by rw [hc] at e; cases e), ?_, ?_, ?_⟩
    · rw [nnr_app (show i ≤ k by omega) (Nat.le_of_lt hek.1), List.map_append]
      have e1 : (nnr ns i k).map (fun y => (bxOf ns sp zs (fun x => if k ≤ x then tk x else tf x) y).enc) = (nnr ns i k).map fun y => (bxOf ns sp zs tf y).enc := List.map_congr_left fun y hy => by
        have := nnr_mem hy
        unfold bxOf
        simp only
        rw [if_neg (by omega)]
      have e2 : (nnr ns k (en k)).map (fun y => (bxOf ns sp zs (fun x => if k ≤ x then tk x else tf x) y).enc) = (nnr ns k (en k)).map fun y => (bxOf ns sp zs tk y).enc := List.map_congr_left fun y hy => by
        have := nnr_mem hy
        unfold bxOf
        simp only
        rw [if_pos (by omega)]
      rw [e1, e2]
    · show (if k ≤ i then tk i else tf i) = top
      rw [if_neg (by omega)]; exact htop
    · intro j' n' h1 h2 h3 h4
      rcases Nat.lt_or_ge j' k with q | q
      · obtain ⟨hg', ts', tot', b1, b2, b3⟩ := hTf j' n' h1 q h3 h4
        refine ⟨hg', ts', tot', b1, b2, fun y hy => ?_⟩
        obtain ⟨c1, c2, c3⟩ := b3 y hy
        refine ⟨c1, by omega, ?_⟩
        simp only
        rw [if_neg (by omega), if_neg (by omega)]; exact c3
      · obtain ⟨hg', ts', tot', b1, b2, b3⟩ := hTk j' n' q h2 h3 h4
        refine ⟨hg', ts', tot', b1, b2, fun y hy => ?_⟩
        obtain ⟨c1, c2, c3⟩ := b3 y hy
        refine ⟨c1, c2, ?_⟩
        simp only
        rw [if_pos (by omega), if_pos (by omega)]; exact c3
    · intro j' y hj' hy
      by_cases e : j' = j
      · subst e
        rw [hkj] at hy; cases hy
        simp only
        rw [if_pos (Nat.le_refl _)]
        exact ⟨hik, hek.1, htk⟩
      · obtain ⟨c1, c2, c3⟩ := hts j' y (by omega) hy
        refine ⟨c1, by omega, ?_⟩
        simp only
        rw [if_neg (by omega)]; exact c3
  · rintro ρ m ⟨a, tf, x7, x8, rfl, rfl, ha, hch, hnc, htop, hTf, hts⟩
    rw [List.length_map] at hts hch
    have hts' : ∀ q ∈ ts, i < q.1 ∧ q.1 < a ∧ tf q.1 = top + q.2 := fun q hq => by
      obtain ⟨j, hj⟩ := List.getElem?_of_mem hq
      exact hts j q (List.getElem?_eq_some_iff.mp hj).1 hj
    have hend : nnr ns i a = nnr ns i (en i) ∧ a ≤ en i := by
      cases hc : n.kd.cont with
      | true =>
        have h2 := hch hc
        have h3 : ts.length = (hold ns i).length := by
          have := congrArg List.length htn
          rw [hc, if_pos rfl, List.length_map] at this; exact this
        rw [h3, List.drop_length] at h2
        have h2 : a = en i := h2
        subst h2
        exact ⟨rfl, Nat.le_refl _⟩
      | false =>
        have h2 := hnc hc
        subst h2
        refine ⟨?_, hen.1⟩
        have h3 : nnr ns (i + 1) (en i) = [] := by
          refine chain_nn hb hO (fun k hk => ?_) (hO.chain i hi)
          obtain ⟨m, hm, _, hkl', _, _, _, a1, a2, a3, _⟩ := hb.kid hn hk
          have htx : n.kd = .text ∨ n.kd = .head := by
            cases q : n.kd <;> rw [q] at hc a1 a2 <;> first | exact .inl rfl | exact .inr rfl | (exact absurd rfl a1) | (exact absurd rfl a2) | (exact absurd hc (by decide))
          exact ⟨hkl', by rw [kdAt_of hm, a3.mpr htx]⟩
        rw [nnr_app (Nat.le_succ i) hen.1, h3, List.append_nil]
    walk_at "go"
    refine ret_m (Nat.zero_le _) rfl ⟨rfl, _, rfl, tf, by rw [hend.1], htop, fun j n' h1 h2 h3 h4 => ?_⟩
    try simp only at h1 h2 h3
    by_cases e : j = i
    · subst e
      rw [hn] at h3; cases h3
      refine ⟨hg, ts, tot, hH h4, hT, fun q hq => ?_⟩
      obtain ⟨c1, c2, c3⟩ := hts' q hq
      exact ⟨c1, Nat.lt_of_lt_of_le c2 hend.2, by rw [htop]; exact c3⟩
    · have hc : n.kd.cont = true := by
        cases hc : n.kd.cont with
        | true => rfl
        | false =>
          exfalso
          -- in a text there are notes alone
          have h3' : nnr ns (i + 1) (en i) = [] := by
            have h5 := hnc hc
            subst h5
            have := hend.1
            rw [nnr_app (Nat.le_succ i) hen.1] at this
            exact List.append_right_eq_self.mp this.symm
          have hj : j ∈ nnr ns (i + 1) (en i) := by
            unfold nnr
            rw [List.mem_filter, List.mem_range'_1]
            refine ⟨by omega, decide_eq_true ?_⟩
            rw [kdAt_of h3]
            intro e2
            rw [Option.some.inj e2] at h4
            cases h4
          rw [h3'] at hj; cases hj
      have hae : a = en i := by
        have h2 := hch hc
        have h3 : ts.length = (hold ns i).length := by
          have := congrArg List.length htn
          rw [hc, if_pos rfl, List.length_map] at this; exact this
        rw [h3, List.drop_length] at h2
        exact h2
      subst hae
      exact hTf j n' (by omega) h2 h3 h4
theorem ok_insides (T : Top K mg) : Has P w K mg base 12 "insides" ["book", "looks", "spans", "sizes", "node", "top"] (spG K (S_insides 6).S) :=
  ok_insidesS 5 _ rfl (ok_insidesS 4 _ rfl (ok_insidesS 3 _ rfl (ok_insidesS 2 _ rfl (ok_insidesS 1 _ rfl (ok_insidesS 0 _ rfl (insides0 rfl T) T) T) T) T) T) T
end
end LP
end

section
set_option maxHeartbeats 4000000
/-! L1: the law's stream of numbers, words, pieces. -/
namespace LP
open PySem PySem.Spec PyProof.Rows L2
@[reducible] def stm (q : Int × Int) : Ct := .lst [.int q.1, .int q.2]
section
variable {P : Program} {w : World} {K : PySem.W.Frag} {mg : Str → Option Value} {base : Heap}
def S__law_stream : Spec (List Int × Nat) := ⟨fun x => [.dat (.scr x.1), .dat (.int (x.2 : Int))], fun _ => [], fun x => x.2 ≤ 10, fun _ s mu => s = .ob 0 ∧ ∃ q, mu = [stm q]⟩
theorem ok__law_stream (T : Top K mg) : Has P w K mg base 1 "_law_stream" ["_law_script", "_law_k"] (spG K S__law_stream) := by
  refine has_ok T.d__law_stream sc__law_stream (fun _ => rfl) (fun _ _ _ _ _ _ us hl => match us, hl with | [_, _], _ => rfl) (fun f cdv A outer s H E hr => ⟨_, (pss_cons (ps_if (pt_cmpR op_lt (pv 1) (pe_callB (call_lenK (K := K) rfl) (by rfl) T.b_len bt_len (pa_cons (pv 0) pa_nil)) (nomark _)) (pss_one (ps_ret (pe_lst (pa_cons (pe_ix (ix_listK (K := K) rfl) (pv 0) (pv 1) (fun _ _ => rfl)) (pa_cons (pe_op op_add (pe_op op_add (pe_op op_mod (pe_ix (ix_listK (K := K) rfl) (pv 0) (pv 1) (fun _ _ => rfl)) pe_int) (pe_op op_mul (pv 1) (pv 1))) pe_int) pa_nil))))) pss_nil)
      (pss_one (ps_ret (pe_lst (pa_cons (pe_op op_add (pe_op op_mul (pe_op op_mul (pv 1) (pv 1)) pe_int) pe_int) (pa_cons (pe_op op_add (pv 1) pe_int) pa_nil)))))), ?_⟩)
  rintro ⟨ns, k⟩ hp
  simp only [cxOf, Cx.nox, Cx.wish, Cx.blk, S__law_stream, N__law_stream, startR, PSpec.S_args, PSpec.S_mu, PSpec.S_pre, PSpec.S_post, List.map_cons, List.map_nil, List.length_cons, List.length_nil, Nat.reduceAdd, Nat.reduceSub, List.replicate_succ, List.replicate_zero, List.cons_append, List.nil_append, List.append_nil] at hp ⊢
  walk_at "go"
  refine wc_lenC ?_
  walk_at "go"
  refine ifd (fun h => ?_) (fun h => ?_)
  · have hk : k < ns.length := by omega
    walk_at "go"
    refine we_lstM2 ?_
    walk_at "go"
    refine wr_ixC (at_k (getI hk)) ?_
    walk_at "go"
    refine wr_ixC (at_k (getI hk)) ?_
    walk_at "go"
    refine wr_mod (by omega) ?_
    walk_at "go"
    refine wr_mul (.inl ⟨by omega, by omega⟩) ?_
    walk_at "go"
    exact ret_o (Nat.le_refl _) rfl ⟨rfl, (_, _), rfl⟩
  · walk_at "go"
    refine we_lstM2 ?_
    walk_at "go"
    refine wr_mul (.inl ⟨by omega, by omega⟩) ?_
    walk_at "go"
    refine wr_mul (.inr ⟨by omega, by omega⟩) ?_
    walk_at "go"
    exact ret_o (Nat.le_refl _) rfl ⟨rfl, (_, _), rfl⟩

def S__law_take : Spec ((Int × Int) × Int) := ⟨fun x => [.ob 0, .dat (.int x.2)], fun x => [stm x.1], fun x => 1 ≤ x.2 ∧ x.2 ≤ 1000000, fun x s mu => ∃ r q, s = .dat (.int r) ∧ 0 ≤ r ∧ r < x.2 ∧ mu = [stm q]⟩
theorem ok__law_take (T : Top K mg) : Has P w K mg base 1 "_law_take" ["_law_stream_here", "_law_most"] (spG K S__law_take) := by
  refine has_ok T.d__law_take sc__law_take (fun _ => rfl) (fun _ _ _ _ _ _ us hl => match us, hl with | [_, _], _ => rfl) (fun f cdv A outer s H E hr => ⟨_, (pss_cons (ps_if (PW.pt (pw_or (pt_cmpR op_eq (pe_ix (ix_listK (K := K) rfl) (pv 0) pe_int (fun _ _ => rfl)) pe_int (nomark _)) (pw_or1 (pt_cmpR op_eq (pe_ix (ix_listK (K := K) rfl) (pv 0) pe_int (fun _ _ => rfl)) (pe_un un_neg pe_int) (nomark _))))) (pss_cons (ps_asg (pe_op op_mod (pe_op op_add (pe_op op_mul (pe_ix (ix_listK (K := K) rfl) (pv 0) pe_int (fun _ _ => rfl)) pe_int) pe_int) pe_int) (pg_sub (pv 0) pe_int set_list))
      (pss_one (ps_ret (pe_op op_mod (pe_op op_mod (pe_op op_mul (pe_ix (ix_listK (K := K) rfl) (pv 0) pe_int (fun _ _ => rfl)) (pe_ix (ix_listK (K := K) rfl) (pv 0) pe_int (fun _ _ => rfl))) pe_int) (pv 1))))) pss_nil)
      (pss_cons (ps_set (i := 2) sc__law_take.nd rfl (.inl rfl) (pe_op op_mod (pe_ix (ix_listK (K := K) rfl) (pv 0) pe_int (fun _ _ => rfl)) (pv 1)))
      (pss_cons (ps_asg (pe_op op_fdiv (pe_ix (ix_listK (K := K) rfl) (pv 0) pe_int (fun _ _ => rfl)) (pv 1)) (pg_sub (pv 0) pe_int set_list))
      (pss_one (ps_ret (pv 2)))))), ?_⟩)
  rintro ⟨⟨a, b⟩, most⟩ hp
  simp only [cxOf, Cx.nox, Cx.wish, Cx.blk, S__law_take, N__law_take, startR, PSpec.S_args, PSpec.S_mu, PSpec.S_pre, PSpec.S_post, List.map_cons, List.map_nil, List.length_cons, List.length_nil, Nat.reduceAdd, Nat.reduceSub, List.replicate_succ, List.replicate_zero, List.cons_append, List.nil_append, List.append_nil] at hp ⊢
  obtain ⟨h1, h2⟩ := hp
  walk_at "gi"
  refine ws_if (wt_mono (Ψ' := fun c m => c = decide (a = 0 ∨ a = -1) ∧ m = [stm (a, b)]) ?_ ?_)
  · walk_at "go"
    refine wr_ixL (isl_m rfl) (d := .int a) rfl ?_
    walk_at "go"
    refine ifd (fun h => ⟨(decide_eq_true (.inl h)).symm, rfl⟩) (fun h => ?_)
    walk_at "go"
    refine wr_ixL (isl_m rfl) (d := .int a) rfl ?_
    walk_at "go"
    exact ⟨decide_eq_decide.mpr (by omega), rfl⟩
  rintro c m ⟨rfl, rfl⟩
  refine ifd (fun _ => ?_) (fun _ => ?_)
  · walk_at "go"
    refine wr_ixL (isl_m rfl) (d := .int b) rfl ?_
    walk_at "go"
    refine wr_mul (.inr ⟨by omega, by omega⟩) ?_
    walk_at "go"
    refine wr_mod (by omega) ?_
    have b1 := Int.emod_nonneg (b * 48271 + 12345) (show (2147483647 : Int) ≠ 0 by omega)
    have b2 := Int.emod_lt_of_pos (b * 48271 + 12345) (show (0 : Int) < 2147483647 by omega)
    generalize (b * 48271 + 12345) % 2147483647 = c at b1 b2
    refine wg_sub ?_
    walk_at "go"
    refine ⟨0, _, _, 1, rfl, rfl, rfl, rfl, ?_⟩
    walk_at "go"
    refine wr_ixL (isl_m rfl) (d := .int c) rfl ?_
    walk_at "go"
    refine wr_ixL (isl_m rfl) (d := .int c) rfl ?_
    refine wr_mul (.inl ⟨by omega, by omega⟩) ?_
    walk_at "go"
    refine wr_mod (by omega) ?_
    walk_at "go"
    refine wr_mod (by omega) ?_
    walk_at "go"
    exact ⟨_, (a, c), rfl, Int.emod_nonneg _ (by omega), Int.emod_lt_of_pos _ (by omega), rfl⟩
  · walk_at "go"
    refine wr_ixL (isl_m rfl) (d := .int a) rfl ?_
    walk_at "go"
    refine wr_mod (by omega) ?_
    walk_at "go"
    refine wr_ixL (isl_m rfl) (d := .int a) rfl ?_
    walk_at "go"
    refine wr_fdiv ⟨by omega, by omega⟩ ?_
    refine wg_sub ?_
    walk_at "go"
    refine ⟨0, _, _, 0, rfl, rfl, rfl, rfl, ?_⟩
    walk_at "go"
    exact ⟨_, (_, b), rfl, Int.emod_nonneg _ (by omega), Int.emod_lt_of_pos _ (by omega), rfl⟩
/-- a call of take -/
theorem we_tk {ρ : Rho} {mu : List Ct} {Φ : SV → List Ct → Prop} {te : TE} {E : XK} {s k : Nat} (hs : ρ[s]? = some (some (.ob k))) (h : WE K te ρ mu fun y mu1 => ∃ (most : Int) (q : Int × Int), y = .dat (.int most) ∧ (1 ≤ most ∧ most ≤ 1000000) ∧ mu1[k]? = some (stm q) ∧
    ∀ r q', 0 ≤ r → r < most → Φ (.dat (.int r)) (mu1.set k (stm q'))) : WE K (tCall (spG K S__law_take) [] E (tCons (tVar s) (tCons te tNil))) ρ mu Φ := by
  refine we_callM (wa_cons (we_var hs (wa_cons (we_mono h ?_))))
  rintro y mu1 ⟨most, q, rfl, hm, hq, kk⟩
  refine wa_nil ⟨(q, most), [k], rfl, by simp, ?_, fun i hi => ?_, hm, ?_⟩
  · show [mu1[k]?] = [some (stm q)]
    rw [hq]
  · simp [S__law_take] at hi; simp [hi]
  · rintro s mc ⟨r, q', rfl, h1, h2, rfl⟩
    have e : putAll mu1 [k] [stm q'] ++ [stm q'].drop ([k] : List Nat).length = mu1.set k (stm q') := by simp [putAll]
    rw [e]
    exact kk r q' h1 h2
theorem signs_at {z : Str} {m : Nat} (h : z.cps.size = m) {r : Int} (h0 : 0 ≤ r) (h1 : r < m) : ∃ c, atI z.cps.toList r = some c := by
  obtain ⟨j, rfl⟩ : ∃ j : Nat, r = (j : Int) := ⟨r.toNat, by omega⟩
  exact ⟨_, at_k (getI (xs := z.cps.toList) (i := j) (by rw [Array.length_toList]; omega))⟩
def S__law_word : Spec ((Int × Int) × Int) := ⟨fun x => [.ob 0, .dat (.int x.2)], fun x => [stm x.1], fun x => 1 ≤ x.2 ∧ x.2 ≤ 10, fun x s mu => ∃ z q, s = .dat (.str z) ∧ z.cps.size ≤ 20 ∧ mu = [stm q]⟩
theorem ok__law_word (T : Top K mg) : Has P w K mg base 2 "_law_word" ["_law_stream_here", "_law_most"] (spG K S__law_word) := by
  have h__law_take := ok__law_take (P := P) (w := w) (K := K) (base := base) T
  refine has_ok T.d__law_word sc__law_word (fun _ => rfl) (fun _ _ _ _ _ _ us hl => match us, hl with | [_, _], _ => rfl) (fun f cdv A outer s H E hr => ⟨_, (pss_cons (ps_set (i := 2) sc__law_word.nd rfl (.inl rfl) pe_str)
      (pss_cons (ps_set (i := 3) sc__law_word.nd rfl (.inl rfl) pe_str)
      (pss_cons (ps_for PassesOwn.never rfl (pi_range1 (by rfl) T.b_range (pa_cons (pe_op op_add pe_int (pe_has h__law_take hr (by omega) (by rfl) (pa_cons (pv 0) (pa_cons (pv 1) pa_nil)))) pa_nil)) (pg_name (i := 4) sc__law_word.nd rfl (.inl rfl)) (pss_one (ps_set (i := 3) sc__law_word.nd rfl (.inl rfl) (pe_op op_add_str (pv 3) (pe_ix ix_str (pv 2) (pe_has h__law_take hr (by omega) (by rfl) (pa_cons (pv 0) (pa_cons pe_int pa_nil))) (fun _ _ => rfl))))))
      (pss_one (ps_ret (pv 3)))))), ?_⟩)
  rintro ⟨q0, most⟩ hp
  simp only [cxOf, Cx.nox, Cx.wish, Cx.blk, S__law_word, N__law_word, startR, PSpec.S_args, PSpec.S_mu, PSpec.S_pre, PSpec.S_post, List.map_cons, List.map_nil, List.length_cons, List.length_nil, Nat.reduceAdd, Nat.reduceSub, List.replicate_succ, List.replicate_zero, List.cons_append, List.nil_append, List.append_nil] at hp ⊢
  obtain ⟨h1, h2⟩ := hp
  walk_at "go"
  refine ws_forE (wi_r1 ?_)
  walk_at "go"
  refine we_tk rfl ?_
  walk_at "go"
  refine ⟨most, q0, rfl, ⟨h1, by omega⟩, rfl, fun r q hr0 hr1 => ?_⟩
  walk_at "go"
  refine ⟨_, rfl, by omega, fun i ρ m => ∃ (z : Str) (q : Int × Int) (x4 : Option SV), ρ = [some (.ob 0), some (.dat (.int most)), some (.dat (.str "abcdefghijklmnopqrstuvwxyzABCDEFGHIJKLMNOPQRSTUVWXYZ0123456789.,-;:'()!?")), some (.dat (.str z)), x4] ∧ m = [stm q] ∧ z.cps.size ≤ i, ⟨_, q, _, rfl, rfl, Nat.le_of_eq (by decide +kernel)⟩, ?_, ?_⟩
  · rintro i dd ρ m hd ⟨z, q, x4, rfl, rfl, hz⟩
    obtain ⟨hi, rfl⟩ := rngD_get hd
    walk_at "go"
    refine we_tk rfl ?_
    walk_at "go"
    refine ⟨72, q, rfl, ⟨by omega, by omega⟩, rfl, fun r q hr0 hr1 => ?_⟩
    obtain ⟨c, hc⟩ := signs_at (z := "abcdefghijklmnopqrstuvwxyzABCDEFGHIJKLMNOPQRSTUVWXYZ0123456789.,-;:'()!?") (m := 72) (by decide +kernel) hr0 hr1
    refine wr_ixS (by decide +kernel) hc ?_
    refine wr_addS (by show z.cps.size + 1 ≤ 1000000; omega) ?_
    walk_at "go"
    refine ⟨z ++ ⟨#[c]⟩, q, _, rfl, rfl, ?_⟩
    show (z.cps ++ #[c]).size ≤ i + 1
    rw [Array.size_append]; simp; omega
  · rintro ρ m ⟨z, q, x4, rfl, rfl, hz⟩
    rw [rngD_len] at hz
    walk_at "go"
    exact ⟨z, q, rfl, by omega, rfl⟩
end
end LP
end

section
set_option maxHeartbeats 4000000
/-! L2a: the law's pieces, a node added. -/
namespace LP
open PySem PySem.Spec PyProof.Rows L2
theorem rng_cast (done notes : Nat) : rngD (done : Int) ((notes : Int) - (done : Int)).toNat = (List.range (notes - done)).map fun (j : Nat) => D.int ((done : Int) + (j : Int)) := by
  unfold rngD
  rw [show ((notes : Int) - (done : Int)).toNat = notes - done by omega]
section
variable {P : Program} {w : World} {K : PySem.W.Frag} {mg : Str → Option Value} {base : Heap}
structure PIg where
  q : Int × Int
  notes : Nat
  names : List Str
def S__law_pieces : Spec PIg := ⟨fun x => [.ob 0, .dat (.int (x.notes : Int)), .dat (.lst (x.names.map D.str))], fun x => [stm x.q], fun x => x.notes ≤ 2 ∧ 1 ≤ x.names.length ∧ x.names.length ≤ 2000,
  fun x s mu => ∃ pcs q, s = .dat (.lst (pcs.map Pc.enc)) ∧ PcsOk pcs x.notes ∧ mu = [stm q]⟩
theorem ok__law_pieces (T : Top K mg) : Has P w K mg base 3 "_law_pieces" ["_law_stream_here", "_law_notes", "_law_names"] (spG K S__law_pieces) := by
  have h__law_take := ok__law_take (P := P) (w := w) (K := K) (base := base) T
  have h__law_word := ok__law_word (P := P) (w := w) (K := K) (base := base) T
  refine has_ok T.d__law_pieces sc__law_pieces (fun _ => rfl) (fun _ _ _ _ _ _ us hl => match us, hl with | [_, _, _], _ => rfl) (fun f cdv A outer s H E hr => ⟨_, (pss_cons (ps_set (i := 3) sc__law_pieces.nd rfl (.inl rfl) (pe_lst pa_nil))
      (pss_cons (ps_set (i := 4) sc__law_pieces.nd rfl (.inl rfl) pe_int)
      (pss_cons (ps_for PassesOwn.never rfl (pi_range1 (by rfl) T.b_range (pa_cons (pe_op op_add pe_int (pe_has h__law_take hr (by omega) (by rfl) (pa_cons (pv 0) (pa_cons pe_int pa_nil)))) pa_nil)) (pg_name (i := 5) sc__law_pieces.nd rfl (.inl rfl)) (pss_cons (ps_if (pt_cmpR op_eq (pe_has h__law_take hr (by omega) (by rfl) (pa_cons (pv 0) (pa_cons pe_int pa_nil))) pe_int (nomark _)) (pss_one (ps_expr (pe_bmK (K := K) rfl PySem.F.plainAttrs_list PySem.F.slot_list_append PySem.F.type_list_append mt_append (pv 3) (pa_cons (pe_tup (pa_cons pe_str (pa_cons (pe_ix (ix_listK (K := K) rfl) (pv 2) (pe_has h__law_take hr (by omega) (by rfl) (pa_cons (pv 0) (pa_cons (pe_callB (call_lenK (K := K) rfl) (by rfl) T.b_len bt_len (pa_cons (pv 2) pa_nil)) pa_nil))) (fun _ _ => rfl)) (pa_cons (pe_has h__law_take hr (by omega) (by rfl) (pa_cons (pv 0) (pa_cons pe_int pa_nil))) pa_nil)))) pa_nil)))) (pss_one (ps_expr (pe_bmK (K := K) rfl PySem.F.plainAttrs_list PySem.F.slot_list_append PySem.F.type_list_append mt_append (pv 3) (pa_cons (pe_tup (pa_cons pe_str (pa_cons (pe_has h__law_word hr (by omega) (by rfl) (pa_cons (pv 0) (pa_cons pe_int pa_nil))) (pa_cons (pe_has h__law_take hr (by omega) (by rfl) (pa_cons (pv 0) (pa_cons pe_int pa_nil))) pa_nil)))) pa_nil)))))
      (pss_one (ps_if (PW.pt (pw_and (pt_cmpR op_lt (pv 4) (pv 1) (nomark _)) (pw_and1 (pt_cmpR op_eq (pe_has h__law_take hr (by omega) (by rfl) (pa_cons (pv 0) (pa_cons pe_int pa_nil))) pe_int (nomark _))))) (pss_cons (ps_expr (pe_bmK (K := K) rfl PySem.F.plainAttrs_list PySem.F.slot_list_append PySem.F.type_list_append mt_append (pv 3) (pa_cons (pe_tup (pa_cons pe_str (pa_cons (pv 4) (pa_cons pe_int pa_nil)))) pa_nil)))
      (pss_one (ps_set (i := 4) sc__law_pieces.nd rfl (.inl rfl) (pe_op op_add (pv 4) pe_int)))) pss_nil))))
      (pss_one (ps_ret (pe_op op_cat (pv 3) (pe_lc (own := [("_law_k", 5)]) (g := (gName 5)) (tt := tYes) rfl sc__law_pieces.nd (pi_range2 (by rfl) T.b_range (pa_cons (pv 4) (pa_cons (pv 1) pa_nil))) (blkOk_by (N := N__law_pieces) (sc := defScope s__law_pieces) (by decide +kernel)) (fun _ _ _ _ _ => (pg_name (i := 5) sc__law_pieces.nd rfl (.inl rfl))) (fun _ _ _ _ _ => pts_nil) (fun _ _ _ _ _ => (pe_tup (pa_cons pe_str (pa_cons (pv 5) (pa_cons pe_int pa_nil)))))))))))), ?_⟩)
  rintro ⟨q0, notes, names⟩ hp
  simp only [cxOf, Cx.nox, Cx.wish, Cx.blk, S__law_pieces, N__law_pieces, startR, PSpec.S_args, PSpec.S_mu, PSpec.S_pre, PSpec.S_post, List.map_cons, List.map_nil, List.length_cons, List.length_nil, Nat.reduceAdd, Nat.reduceSub, List.replicate_succ, List.replicate_zero, List.cons_append, List.nil_append, List.append_nil] at hp ⊢
  obtain ⟨h1, h2, h3⟩ := hp
  walk_at "go"
  refine we_lstM0 ?_
  walk_at "go"
  refine ws_forE (wi_r1 ?_)
  walk_at "go"
  refine we_tk rfl ?_
  walk_at "go"
  refine ⟨7, q0, rfl, ⟨by omega, by omega⟩, rfl, fun r0 q hr0 hr1 => ?_⟩
  walk_at "go"
  refine ⟨_, rfl, by omega, fun i ρ m => ∃ (pcs : List Pc) (done : Nat) (q : Int × Int) (x5 : Option SV), ρ = [some (.ob 0), some (.dat (.int (notes : Int))), some (.dat (.lst (names.map D.str))), some (.ob 1), some (.dat (.int (done : Int))), x5] ∧
    m = [stm q, .lst (pcs.map Pc.enc)] ∧ pcs.length ≤ 2 * i ∧ done ≤ notes ∧ (∀ p ∈ pcs, PcOk notes p) ∧ (0 < i → ∃ p, pcs[0]? = some p ∧ p.isNote = false), ⟨[], 0, q, _, rfl, rfl, Nat.le_refl _, Nat.zero_le _, fun p h => by simp at h, fun h => absurd h (Nat.lt_irrefl _)⟩, ?_, ?_⟩
  · rintro i dd ρ m hd ⟨pcs, done, q, x5, rfl, rfl, hl, hdn, hpo, hfst⟩
    obtain ⟨hi, rfl⟩ := rngD_get hd
    rw [show (0 : Int) + (i : Nat) = (i : Int) by omega]
    walk_at "gi"
    refine ws_mid (fun ρ m => ∃ (p : Pc) (q : Int × Int), ρ = [some (.ob 0), some (.dat (.int (notes : Int))), some (.dat (.lst (names.map D.str))), some (.ob 1), some (.dat (.int (done : Int))), some (.dat (.int (i : Int)))] ∧
      m = [stm q, .lst ((pcs ++ [p]).map Pc.enc)] ∧ p.isNote = false ∧ PcOk notes p) ?_ ?_
    · walk_at "go"
      refine we_tk rfl ?_
      walk_at "go"
      refine ⟨5, q, rfl, ⟨by omega, by omega⟩, rfl, fun r q1 _ _ => ?_⟩
      walk_at "go"
      refine ifd (fun _ => ?_) (fun _ => ?_)
      · walk_at "go"
        refine we_tk rfl ?_
        walk_at "go"
        refine ⟨_, q1, rfl, ⟨by rw [List.length_map]; omega, by rw [List.length_map]; omega⟩, rfl, fun r q2 b1 b2 => ?_⟩
        rw [List.length_map] at b2
        have hx := getI (xs := names) (i := r.toNat) (by omega)
        refine wr_ixL isl_d (at_i (i := r.toNat) (by omega) hx) ?_
        walk_at "go"
        refine we_tk rfl ?_
        walk_at "go"
        refine ⟨4, q2, rfl, ⟨by omega, by omega⟩, rfl, fun r3 q3 _ _ => ?_⟩
        walk_at "go"
        refine ap2 rfl (by rw [List.length_map]; omega) ?_
        walk_at "go"
        exact ⟨.page _ r3, q3, rfl, by rw [List.map_append]; rfl, rfl, trivial⟩
      · walk_at "go"
        refine we_callM ?_
        refine wa_cons (we_var rfl (wa_cons (we_int (wa_nil ?_))))
        refine ⟨(q1, 6), [0], rfl, by simp, rfl, fun i hi => ?_, ⟨by show (1 : Int) ≤ 6; omega, by show (6 : Int) ≤ 10; omega⟩, ?_⟩
        · simp [S__law_word] at hi; simp [hi]
        rintro t mc ⟨z, q2, rfl, hz, rfl⟩
        dsimp only [backV, putAll, List.drop, List.length_cons, List.length_nil, List.append_nil, lset0, lsetS, Nat.zero_add]
        walk_at "go"
        refine we_tk rfl ?_
        walk_at "go"
        refine ⟨4, q2, rfl, ⟨by omega, by omega⟩, rfl, fun r3 q3 _ _ => ?_⟩
        walk_at "go"
        refine ap2 rfl (by rw [List.length_map]; omega) ?_
        walk_at "go"
        exact ⟨.word z r3, q3, rfl, by rw [List.map_append]; rfl, rfl, by show z.cps.size ≤ 100; omega⟩
    rintro ρ m ⟨p, q, rfl, rfl, hp1, hp2⟩
    have h0 : ∀ l, ∃ p', (pcs ++ [p] ++ l)[0]? = some p' ∧ p'.isNote = false := fun l => by
      rcases Nat.eq_zero_or_pos i with z | z
      · have : pcs = [] := by
          cases pcs with
          | nil => rfl
          | cons a r => simp at hl; omega
        subst this
        exact ⟨p, rfl, hp1⟩
      · obtain ⟨p', h4, h5⟩ := hfst z
        refine ⟨p', ?_, h5⟩
        rw [List.append_assoc, List.getElem?_append_left (List.getElem?_eq_some_iff.mp h4).1]; exact h4
    have hall : ∀ x ∈ pcs ++ [p], PcOk notes x := fun x hx => by
      rcases List.mem_append.mp hx with z | z
      · exact hpo x z
      · rw [List.mem_singleton.mp z]; exact hp2
    have stay : ∃ (pcs' : List Pc) (done' : Nat) (q' : Int × Int) (x5 : Option SV), [some (.ob 0), some (.dat (.int (notes : Int))), some (.dat (.lst (names.map D.str))), some (.ob 1), some (.dat (.int (done : Int))), some (.dat (.int (i : Int)))] = [some (.ob 0), some (.dat (.int (notes : Int))), some (.dat (.lst (names.map D.str))), some (.ob 1), some (.dat (.int (done' : Int))), x5] ∧
        [stm q, .lst ((pcs ++ [p]).map Pc.enc)] = [stm q', .lst (pcs'.map Pc.enc)] ∧ pcs'.length ≤ 2 * (i + 1) ∧ done' ≤ notes ∧ (∀ p ∈ pcs', PcOk notes p) ∧ (0 < i + 1 → ∃ p, pcs'[0]? = some p ∧ p.isNote = false) :=
      ⟨pcs ++ [p], done, q, _, rfl, rfl, by simp; omega, hdn, hall, fun _ => by simpa using h0 []⟩
    walk_at "go"
    refine ifd (fun hlt => ?_) (fun _ => ?_)
    · walk_at "go"
      refine we_tk rfl ?_
      walk_at "go"
      refine ⟨2, q, rfl, ⟨by omega, by omega⟩, rfl, fun r q1 _ _ => ?_⟩
      walk_at "go"
      refine ifd (fun _ => ?_) (fun _ => ?_)
      · walk_at "go"
        refine ap2 rfl (by rw [List.length_map, List.length_append]; simp; omega) ?_
        walk_at "go"
        refine ⟨pcs ++ [p] ++ [.note done], done + 1, q1, _, rfl, by rw [List.map_append (l₁ := pcs ++ [p])]; rfl, by simp; omega, by omega, fun x hx => ?_, fun _ => h0 _⟩
        rcases List.mem_append.mp hx with z | z
        · exact hall x z
        · rw [List.mem_singleton.mp z]; show done < notes; omega
      · walk_at "go"
        exact ⟨pcs ++ [p], done, q1, _, rfl, rfl, by simp; omega, hdn, hall, fun _ => by simpa using h0 []⟩
    · walk_at "go"
      exact stay
  · rintro ρ m ⟨pcs, done, q, x5, rfl, rfl, hl, hdn, hpo, hfst⟩
    rw [rngD_len] at hl hfst
    walk_at "go"
    refine we_lcM (α := Nat) (gin_name (by decide)) (wi_r2 ?_)
    walk_at "go"
    refine ⟨_, _, rfl, by omega, List.range (notes - done), fun j => .int ((done : Int) + (j : Int)), fun j => Pc.enc (.note (done + j)), rng_cast done notes, by simp; omega, rfl, fun j k hk => ?_, ?_⟩
    · walk_at "go"
      refine ⟨rfl, ?_⟩
      walk_at "go"
      exact ⟨rfl, by show _ = D.tup [.str "note", .int (((done + k : Nat)) : Int), .int 0]; rw [Int.natCast_add]⟩
    refine wr_cat (isl_m rfl) isl_d (by simp; omega) ?_
    walk_at "go"
    obtain ⟨p, hp0, hp1⟩ := hfst (by omega)
    refine ⟨pcs ++ (List.range (notes - done)).map fun j => .note (done + j), q, by rw [List.map_append, List.map_map]; rfl, ⟨by simp; omega, ⟨p, by rw [List.getElem?_append_left (List.getElem?_eq_some_iff.mp hp0).1]; exact hp0, hp1⟩, fun x hx => ?_⟩, rfl⟩
    rcases List.mem_append.mp hx with z | z
    · exact hpo x z
    · obtain ⟨j, hj, rfl⟩ := List.mem_map.mp z
      have := List.mem_range.mp hj
      show done + j < notes
      omega

structure ADg where
  ns : List Nd
  el : Int
  kd : Kd
  st : D
  q : Int × Int
def S__law_add : Spec ADg := ⟨fun x => [.ob 0, .dat (.int x.el), .dat (.str x.kd.s), .dat x.st, .ob 1], fun x => [.lst (x.ns.map Nd.enc), stm x.q], fun x => x.ns.length ≤ 675,
  fun x s mu => ∃ nm ms q, s = .dat (.int (x.ns.length : Int)) ∧ mu = [.lst ((x.ns ++ [Nd.mk x.el x.kd nm ms x.st]).map Nd.enc), stm q]⟩
theorem mark_at {r : Int} (h0 : 0 ≤ r) (h1 : r < 4) : ∃ z : Str, atI [D.str "big", .str "red", .str "far", .str "of"] r = some (.str z) := by
  have : r = 0 ∨ r = 1 ∨ r = 2 ∨ r = 3 := by omega
  rcases this with rfl | rfl | rfl | rfl <;> exact ⟨_, rfl⟩
theorem ok__law_add (T : Top K mg) : Has P w K mg base 2 "_law_add" ["_law_nodes", "_law_elder", "_law_kind", "_law_stuff", "_law_stream_here"] (spG K S__law_add) := by
  have h__law_take := ok__law_take (P := P) (w := w) (K := K) (base := base) T
  refine has_ok T.d__law_add sc__law_add (fun _ => rfl) (fun _ _ _ _ _ _ us hl => match us, hl with | [_, _, _, _, _], _ => rfl) (fun f cdv A outer s H E hr => ⟨_, (pss_cons (ps_set (i := 5) sc__law_add.nd rfl (.inl rfl) pe_str)
      (pss_cons (ps_set (i := 6) sc__law_add.nd rfl (.inl rfl) pe_str)
      (pss_cons (ps_if (pt_cmpR op_eq (pe_has h__law_take hr (by omega) (by rfl) (pa_cons (pv 4) (pa_cons pe_int pa_nil))) pe_int (nomark _)) (pss_one (ps_set (i := 6) sc__law_add.nd rfl (.inl rfl) (pe_op op_add_str (pe_op op_add_str pe_str (pe_ix ix_str (pv 5) (pe_op op_mod (pe_callB (call_lenK (K := K) rfl) (by rfl) T.b_len bt_len (pa_cons (pv 0) pa_nil)) pe_int) (fun _ _ => rfl))) (pe_ix ix_str (pv 5) (pe_op op_fdiv (pe_callB (call_lenK (K := K) rfl) (by rfl) T.b_len bt_len (pa_cons (pv 0) pa_nil)) pe_int) (fun _ _ => rfl))))) pss_nil)
      (pss_cons (ps_setLc (i := 7) (own := [("_law_k", 8)]) (g := (gName 8)) (tt := tYes) rfl sc__law_add.nd rfl rfl (sw_true rfl rfl rfl (by decide +kernel)) (pi_range1 (by rfl) T.b_range (pa_cons (pe_has h__law_take hr (by omega) (by rfl) (pa_cons (pv 4) (pa_cons pe_int pa_nil))) pa_nil)) (blkOk_by (N := N__law_add) (sc := defScope s__law_add) (by decide +kernel)) (fun _ _ _ _ _ => (pg_name (i := 8) sc__law_add.nd rfl (.inl rfl))) (fun _ _ _ _ _ => pts_nil) (fun _ _ _ _ _ => (pe_ix (ix_listK (K := K) rfl) (pe_lst (pa_cons pe_str (pa_cons pe_str (pa_cons pe_str (pa_cons pe_str pa_nil))))) (pe_has h__law_take hr (by omega) (by rfl) (pa_cons (pv 4) (pa_cons pe_int pa_nil))) (fun _ _ => rfl))))
      (pss_cons (ps_expr (pe_bmK (K := K) rfl PySem.F.plainAttrs_list PySem.F.slot_list_append PySem.F.type_list_append mt_append (pv 0) (pa_cons (pe_tup (pa_cons (pv 1) (pa_cons (pv 2) (pa_cons (pv 6) (pa_cons (pe_sortedSet (K := K) rfl rfl (by rfl) T.b_sorted (by rfl) T.b_set (pv 7)) (pa_cons (pv 3) pa_nil)))))) pa_nil)))
      (pss_one (ps_ret (pe_op op_sub (pe_callB (call_lenK (K := K) rfl) (by rfl) T.b_len bt_len (pa_cons (pv 0) pa_nil)) pe_int)))))))), ?_⟩)
  rintro ⟨ns, el, kd, st, q⟩ hp
  simp only [cxOf, Cx.nox, Cx.wish, Cx.blk, S__law_add, N__law_add, startR, PSpec.S_args, PSpec.S_mu, PSpec.S_pre, PSpec.S_post, List.map_cons, List.map_nil, List.length_cons, List.length_nil, Nat.reduceAdd, Nat.reduceSub, List.replicate_succ, List.replicate_zero, List.cons_append, List.nil_append, List.append_nil] at hp ⊢
  walk_at "gi"
  refine ws_mid (fun ρ m => ∃ (nm : Str) (q : Int × Int), ρ = [some (.ob 0), some (.dat (.int el)), some (.dat (.str kd.s)), some (.dat st), some (.ob 1), some (.dat (.str "abcdefghijklmnopqrstuvwxyz")), some (.dat (.str nm)), none, none] ∧ m = [.lst (ns.map Nd.enc), stm q]) ?_ ?_
  · walk_at "go"
    refine we_tk rfl ?_
    walk_at "go"
    refine ⟨3, q, rfl, ⟨by omega, by omega⟩, rfl, fun r q1 _ _ => ?_⟩
    walk_at "go"
    refine ifd (fun _ => ?_) (fun _ => ?_)
    · walk_at "go"
      refine wc_len (isl_m rfl) ?_
      walk_at "go"
      refine wr_mod (by omega) ?_
      obtain ⟨c1, hc1⟩ := signs_at (z := "abcdefghijklmnopqrstuvwxyz") (m := 26) (by decide +kernel) (Int.emod_nonneg ((ns.map Nd.enc).length : Int) (show (26 : Int) ≠ 0 by omega)) (Int.emod_lt_of_pos _ (by omega))
      refine wr_ixS (by decide +kernel) hc1 ?_
      refine wr_addS (by show 1 + 1 ≤ 1000000; omega) ?_
      walk_at "go"
      refine wc_len (isl_m rfl) ?_
      walk_at "go"
      refine wr_fdiv ⟨by omega, by omega⟩ ?_
      obtain ⟨c2, hc2⟩ := signs_at (z := "abcdefghijklmnopqrstuvwxyz") (m := 26) (r := ((ns.map Nd.enc).length : Int) / 26) (by decide +kernel) (by omega) (by rw [List.length_map]; omega)
      refine wr_ixS (by decide +kernel) hc2 ?_
      refine wr_addS (by show 2 + 1 ≤ 1000000; omega) ?_
      walk_at "go"
      exact ⟨_, q1, rfl, rfl⟩
    · walk_at "go"
      exact ⟨_, q1, rfl, rfl⟩
  rintro ρ m ⟨nm, q, rfl, rfl⟩
  walk_at "go"
  refine we_lcE (gin_name (by decide)) (wi_r1 ?_)
  walk_at "go"
  refine we_tk rfl ?_
  walk_at "go"
  refine ⟨3, q, rfl, ⟨by omega, by omega⟩, rfl, fun r q hr0 hr1 => ?_⟩
  walk_at "go"
  refine ⟨_, rfl, by omega, fun i ys m => ∃ (q : Int × Int) (xs : List Str), m = [.lst (ns.map Nd.enc), stm q] ∧ ys = xs.map D.str ∧ xs.length = i, ⟨q, [], rfl, rfl, rfl⟩, ?_, ?_⟩
  · rintro i dd ys m hd ⟨q, xs, rfl, rfl, hl⟩ hyl
    obtain ⟨hi, rfl⟩ := rngD_get hd
    walk_at "go"
    rw [if_pos rfl]
    walk_at "go"
    refine we_lst ?_
    walk_at "go"
    refine ⟨by decide, ?_⟩
    refine we_tk rfl ?_
    walk_at "go"
    refine ⟨4, q, rfl, ⟨by omega, by omega⟩, rfl, fun r q b1 b2 => ?_⟩
    obtain ⟨z, hz⟩ := mark_at b1 b2
    refine wr_ixL isl_d hz ?_
    exact ⟨by omega, q, xs ++ [z], rfl, by rw [List.map_append]; rfl, by simp [hl]⟩
  · rintro ys m ⟨q, xs, rfl, rfl, hl⟩ _
    rw [rngD_len] at hl
    walk_at "go"
    refine we_sortedSet ?_
    walk_at "go"
    refine ⟨xs, rfl, by omega, ?_⟩
    walk_at "go"
    refine ap2 rfl (by rw [List.length_map]; omega) ?_
    walk_at "go"
    refine wc_len (isl_m rfl) ?_
    walk_at "go"
    refine ⟨nm, .any, q, ?_, by rw [List.map_append]; rfl⟩
    simp
end
end LP
end

section
set_option maxHeartbeats 4000000
/-! L2b: forests of nodes, the law's texts. -/
namespace LP
open PySem PySem.Spec PyProof.Rows L2
structure NdOk (K : Kd) (lv e : Nat) (n : Nd) (kids : List Nd) : Prop where
  el : n.el = (e : Int)
  nb : n.kd ≠ .body
  kn : K ≠ .note
  kp : K ≠ .picture
  nt : n.kd = .note ↔ (K = .text ∨ K = .head)
  as : n.kd = .aside → K ≠ .shelf ∧ K ≠ .grid
  lev : n.kd.cont = true → lv ≤ 3
  full : n.kd = .shelf ∨ n.kd = .grid → kids ≠ []
  pic : n.kd = .picture → ∃ a b : Int, n.st = .lst [.int a, .int b] ∧ 1 ≤ a ∧ a ≤ 60 ∧ 1 ≤ b ∧ b ≤ 60
  pie : n.kd.wu = true → ∃ pcs, n.st = .lst (pcs.map Pc.enc) ∧ PcsOk pcs kids.length
/-- what hangs in the node e, of kind K, written from place a on; lv: how deep it lies -/
inductive Fo : Kd → Nat → Nat → Nat → List Nd → Prop
  | nil {K : Kd} {lv e a : Nat} : Fo K lv e a []
  | cons {K : Kd} {lv e a : Nat} {n : Nd} {kids rest : List Nd} : NdOk K lv e n kids → Fo n.kd (lv + 1) a (a + 1) kids → (n.kd = .aside → ∃ t r, rest = t :: r ∧ t.kd = .text) → Fo K lv e (a + 1 + kids.length) rest → Fo K lv e a (n :: (kids ++ rest))
theorem Fo.append {K : Kd} {lv e a : Nat} {l l2 : List Nd} (h : Fo K lv e a l) : Fo K lv e (a + l.length) l2 → Fo K lv e a (l ++ l2) := by
  intro h2
  generalize hb : a + l.length = b at h2
  induction h generalizing b with
  | nil => rw [List.length_nil, Nat.add_zero] at hb; subst hb; exact h2
  | @cons K lv e a n kids rest h1 hk ha hr ihk ihr =>
    rw [List.cons_append, List.append_assoc]
    refine .cons h1 hk (fun z => ?_) (ihr _ ?_ h2)
    · obtain ⟨t, r, e1, e2⟩ := ha z
      exact ⟨t, r ++ l2, by rw [e1]; rfl, e2⟩
    · rw [← hb, List.length_cons, List.length_append]; omega
theorem Fo.one {K : Kd} {lv e a : Nat} {n : Nd} {kids : List Nd} (h1 : NdOk K lv e n kids) (hk : Fo n.kd (lv + 1) a (a + 1) kids) (ha : n.kd ≠ .aside) : Fo K lv e a (n :: kids) := by
  have := Fo.cons (rest := []) h1 hk (fun z => absurd z ha) .nil
  rwa [List.append_nil] at this
/-- notes -/
def NoteOk (e : Nat) (n : Nd) : Prop := n.el = (e : Int) ∧ n.kd = .note ∧ ∃ pcs, n.st = .lst (pcs.map Pc.enc) ∧ PcsOk pcs 0
theorem fo_notes {K : Kd} {lv e : Nat} (hK : K = .text ∨ K = .head) : ∀ {l : List Nd} {a : Nat}, (∀ n ∈ l, NoteOk e n) → Fo K lv e a l
  | [], _, _ => .nil
  | n :: r, a, h => by
    obtain ⟨h1, h2, h3⟩ := h n List.mem_cons_self
    have ih := fo_notes (lv := lv) (a := a + 1 + ([] : List Nd).length) hK fun x hx => h x (List.mem_cons_of_mem _ hx)
    refine Fo.cons (kids := []) ⟨h1, by rw [h2]; decide, ?_, ?_, ⟨fun _ => hK, fun _ => h2⟩, fun z => (by rw [h2] at z; cases z), fun z => (by rw [h2] at z; cases z), fun z => ?_, fun z => (by rw [h2] at z; cases z), fun _ => h3⟩ .nil (fun z => (by rw [h2] at z; cases z)) ih
    · rcases hK with rfl | rfl <;> decide
    · rcases hK with rfl | rfl <;> decide
    · rw [h2] at z; rcases z with z | z <;> cases z
section
variable {P : Program} {w : World} {K : PySem.W.Frag} {mg : Str → Option Value} {base : Heap}
theorem we_pc {ρ : Rho} {mu : List Ct} {Φ : SV → List Ct → Prop} {t1 t2 : TE} {E : XK} {s k : Nat} (hs : ρ[s]? = some (some (.ob k))) (h : WE K t1 ρ mu fun y1 m1 => WE K t2 ρ m1 fun y2 m2 => ∃ (q : Int × Int) (notes : Nat) (names : List Str), y1 = .dat (.int (notes : Int)) ∧ y2 = .dat (.lst (names.map D.str)) ∧
    (notes ≤ 2 ∧ 1 ≤ names.length ∧ names.length ≤ 2000) ∧ m2[k]? = some (stm q) ∧ ∀ pcs q', PcsOk pcs notes → Φ (.dat (.lst (pcs.map Pc.enc))) (m2.set k (stm q'))) :
    WE K (tCall (spG K S__law_pieces) [] E (tCons (tVar s) (tCons t1 (tCons t2 tNil)))) ρ mu Φ := by
  refine we_callM (wa_cons (we_var hs (wa_cons (we_mono h fun y1 m1 h => wa_cons (we_mono h ?_)))))
  rintro y2 m2 ⟨q, notes, names, rfl, rfl, hb, hq, kk⟩
  refine wa_nil ⟨⟨q, notes, names⟩, [k], rfl, by simp, ?_, fun i hi => ?_, hb, ?_⟩
  · show [m2[k]?] = [some (stm q)]
    rw [hq]
  · simp [S__law_pieces] at hi; simp [hi]
  · rintro s mc ⟨pcs, q', rfl, h1, rfl⟩
    have e : putAll m2 [k] [stm q'] ++ [stm q'].drop ([k] : List Nat).length = m2.set k (stm q') := by simp [putAll]
    rw [e]
    exact kk pcs q' h1
theorem we_ad {ρ : Rho} {mu : List Ct} {Φ : SV → List Ct → Prop} {t1 t2 t3 : TE} {E : XK} {s s2 : Nat} (hs : ρ[s]? = some (some (.ob 0))) (hs2 : ρ[s2]? = some (some (.ob 1))) (h : WE K t1 ρ mu fun y1 m1 => WE K t2 ρ m1 fun y2 m2 => WE K t3 ρ m2 fun y3 m3 => ∃ (ns : List Nd) (el : Int) (kd : Kd) (st : D) (q : Int × Int),
    y1 = .dat (.int el) ∧ y2 = .dat (.str kd.s) ∧ y3 = .dat st ∧ m3 = [.lst (ns.map Nd.enc), stm q] ∧ ns.length ≤ 675 ∧ ∀ nm ms q', Φ (.dat (.int (ns.length : Int))) [.lst ((ns ++ [Nd.mk el kd nm ms st]).map Nd.enc), stm q']) :
    WE K (tCall (spG K S__law_add) [] E (tCons (tVar s) (tCons t1 (tCons t2 (tCons t3 (tCons (tVar s2) tNil)))))) ρ mu Φ := by
  refine we_callM (wa_cons (we_var hs (wa_cons (we_mono h fun y1 m1 h => wa_cons (we_mono h fun y2 m2 h => wa_cons (we_mono h ?_))))))
  rintro y3 m3 ⟨ns, el, kd, st, q, rfl, rfl, rfl, rfl, hl, kk⟩
  refine wa_cons (we_var hs2 (wa_nil ⟨⟨ns, el, kd, st, q⟩, [0, 1], rfl, by decide, rfl, fun i hi => ?_, hl, ?_⟩))
  · simp [S__law_add] at hi; rcases hi with rfl | rfl <;> decide
  · rintro s mc ⟨nm, ms, q', rfl, rfl⟩
    exact kk nm ms q'
structure TXg where
  ns : List Nd
  e : Nat
  kd : Kd
  q : Int × Int
  K : Kd
  lv : Nat
def S__law_text : Spec TXg := ⟨fun x => [.ob 0, .dat (.int (x.e : Int)), .dat (.str x.kd.s), .ob 1], fun x => [.lst (x.ns.map Nd.enc), stm x.q], fun x => (x.kd = .text ∨ x.kd = .head) ∧ x.K.cont = true ∧ x.ns.length ≤ 672,
  fun x s mu => s = .dat .non ∧ ∃ t r q, mu = [.lst ((x.ns ++ t :: r).map Nd.enc), stm q] ∧ t.kd = x.kd ∧ r.length ≤ 2 ∧ (∀ n ∈ r, n.kd.cont = false) ∧ Fo x.K x.lv x.e x.ns.length (t :: r)⟩
theorem notes_at {r : Int} (h0 : 0 ≤ r) (h1 : r < 5) : ∃ k : Nat, atI [D.int 0, .int 0, .int 1, .int 0, .int 2] r = some (.int (k : Int)) ∧ k ≤ 2 := by
  have : r = 0 ∨ r = 1 ∨ r = 2 ∨ r = 3 ∨ r = 4 := by omega
  rcases this with rfl | rfl | rfl | rfl | rfl
  · exact ⟨0, rfl, by decide⟩
  · exact ⟨0, rfl, by decide⟩
  · exact ⟨1, rfl, by decide⟩
  · exact ⟨0, rfl, by decide⟩
  · exact ⟨2, rfl, by decide⟩
theorem ok__law_text (T : Top K mg) : Has P w K mg base 4 "_law_text" ["_law_nodes", "_law_elder", "_law_kind", "_law_stream_here"] (spG K S__law_text) := by
  have h__law_take := ok__law_take (P := P) (w := w) (K := K) (base := base) T
  have h__law_add := ok__law_add (P := P) (w := w) (K := K) (base := base) T
  have h__law_pieces := ok__law_pieces (P := P) (w := w) (K := K) (base := base) T
  refine has_ok T.d__law_text sc__law_text (fun _ => rfl) (fun _ _ _ _ _ _ us hl => match us, hl with | [_, _, _, _], _ => rfl) (fun f cdv A outer s H E hr => ⟨_, (pss_cons (ps_set (i := 4) sc__law_text.nd rfl (.inl rfl) (pe_op op_cat (pe_lc (own := [("_law_row", 8)]) (g := (gName 8)) rfl sc__law_text.nd (pi_listK (K := K) rfl (pv 0)) (blkOk_by (N := N__law_text) (sc := defScope s__law_text) (by decide +kernel)) (fun _ _ _ _ _ => (pg_name (i := 8) sc__law_text.nd rfl (.inl rfl))) (fun _ _ _ _ _ => (pts_one (pt_cmpR op_ne (pe_ix (ix_tupK (K := K) rfl) (pv 8) pe_int (fun _ _ => rfl)) pe_str (nomark _)))) (fun _ _ _ _ _ => (pe_ix (ix_tupK (K := K) rfl) (pv 8) pe_int (fun _ _ => rfl)))) (pe_lst (pa_cons pe_str pa_nil))))
      (pss_cons (ps_set (i := 5) sc__law_text.nd rfl (.inl rfl) (pe_ix (ix_listK (K := K) rfl) (pe_lst (pa_cons pe_int (pa_cons pe_int (pa_cons pe_int (pa_cons pe_int (pa_cons pe_int pa_nil)))))) (pe_has h__law_take hr (by omega) (by rfl) (pa_cons (pv 3) (pa_cons pe_int pa_nil))) (fun _ _ => rfl)))
      (pss_cons (ps_set (i := 6) sc__law_text.nd rfl (.inl rfl) (pe_has h__law_add hr (by omega) (by rfl) (pa_cons (pv 0) (pa_cons (pv 1) (pa_cons (pv 2) (pa_cons (pe_has h__law_pieces hr (by omega) (by rfl) (pa_cons (pv 3) (pa_cons (pv 5) (pa_cons (pv 4) pa_nil)))) (pa_cons (pv 3) pa_nil)))))))
      (pss_one (ps_for PassesOwn.never rfl (pi_range1 (by rfl) T.b_range (pa_cons (pv 5) pa_nil)) (pg_name (i := 7) sc__law_text.nd rfl (.inl rfl)) (pss_one (ps_expr (pe_has h__law_add hr (by omega) (by rfl) (pa_cons (pv 0) (pa_cons (pv 6) (pa_cons pe_str (pa_cons (pe_has h__law_pieces hr (by omega) (by rfl) (pa_cons (pv 3) (pa_cons pe_int (pa_cons (pv 4) pa_nil)))) (pa_cons (pv 3) pa_nil))))))))))))), ?_⟩)
  rintro ⟨ns, e, kd, q, Kk, lv⟩ hp
  simp only [cxOf, Cx.nox, Cx.wish, Cx.blk, S__law_text, N__law_text, startR, PSpec.S_args, PSpec.S_mu, PSpec.S_pre, PSpec.S_post, List.map_cons, List.map_nil, List.length_cons, List.length_nil, Nat.reduceAdd, Nat.reduceSub, List.replicate_succ, List.replicate_zero, List.cons_append, List.nil_append, List.append_nil] at hp ⊢
  obtain ⟨hkd, hK, hl⟩ := hp
  try simp only at hkd hK hl
  walk_at "go"
  refine we_lcQ (gin_name (by decide)) (wi_listO (k := 0) rfl rfl ?_)
  refine ⟨fun i ys m => m = [.lst (ns.map Nd.enc), stm q] ∧ ∃ xs : List Str, ys = xs.map D.str ∧ xs.length ≤ i, fun i ys m h => by rw [h.1]; rfl, ⟨rfl, [], rfl, Nat.le_refl _⟩, ?_, ?_⟩
  · rintro i dd ys m hd ⟨rfl, xs, rfl, hxl⟩ _
    obtain ⟨n, hn, rfl⟩ := map_got hd
    have hi : i < ns.length := (List.getElem?_eq_some_iff.mp hn).1
    walk_at "go"
    by_cases hz : n.nm = ""
    · rw [if_neg (by simp [hz])]
      exact ⟨rfl, xs, rfl, by omega⟩
    · rw [if_pos (by simp [hz])]
      walk_at "go"
      exact ⟨by omega, rfl, xs ++ [n.nm], by rw [List.map_append]; rfl, by simp; omega⟩
  rintro ys m ⟨rfl, xs, rfl, hxl⟩ _
  rw [List.length_map] at hxl
  walk_at "go"
  refine we_lst1 ?_
  walk_at "go"
  refine wr_cat isl_d isl_d (by simp; omega) ?_
  walk_at "go"
  obtain ⟨names, en, hnm1, hnm2⟩ : ∃ names : List Str, xs.map D.str ++ [D.str "nowhere"] = names.map D.str ∧ 1 ≤ names.length ∧ names.length ≤ 2000 := ⟨xs ++ [("nowhere" : Str)], by rw [List.map_append]; rfl, by simp, by simp; omega⟩
  rw [en]
  refine we_lst ?_
  walk_at "go"
  refine ⟨by decide, ?_⟩
  refine we_tk rfl ?_
  walk_at "go"
  refine ⟨5, q, rfl, ⟨by omega, by omega⟩, rfl, fun r q1 b1 b2 => ?_⟩
  obtain ⟨nn, hnn, hn2⟩ := notes_at b1 b2
  refine wr_ixL isl_d hnn ?_
  walk_at "go"
  refine we_ad rfl rfl ?_
  walk_at "go"
  refine we_pc rfl ?_
  walk_at "go"
  refine ⟨q1, nn, names, rfl, rfl, ⟨hn2, hnm1, hnm2⟩, rfl, fun pcs q2 hpcs => ?_⟩
  refine ⟨ns, (e : Int), kd, _, q2, rfl, rfl, rfl, rfl, by omega, fun nm ms q3 => ?_⟩
  walk_at "go"
  refine ws_for (fun i ρ m => ∃ (l : List Nd) (q : Int × Int) (x7 : Option SV), ρ = [some (.ob 0), some (.dat (.int (e : Int))), some (.dat (.str kd.s)), some (.ob 1), some (.dat (.lst (names.map D.str))), some (.dat (.int (nn : Int))), some (.dat (.int (ns.length : Int))), x7, none] ∧
    m = [.lst ((ns ++ Nd.mk (e : Int) kd nm ms (.lst (pcs.map Pc.enc)) :: l).map Nd.enc), stm q] ∧ l.length = i ∧ ∀ n ∈ l, NoteOk ns.length n) (wi_r1 ?_)
  walk_at "go"
  refine ⟨_, rfl, by omega, ⟨[], q3, _, rfl, rfl, rfl, fun n h => by simp at h⟩, ?_, ?_⟩
  · rintro i dd ρ m hd ⟨l, q, x7, rfl, rfl, hll, hno⟩
    obtain ⟨hi, rfl⟩ := rngD_get hd
    walk_at "go"
    refine we_ad rfl rfl ?_
    walk_at "go"
    refine we_pc rfl ?_
    walk_at "go"
    refine ⟨q, 0, names, rfl, rfl, ⟨by omega, hnm1, hnm2⟩, rfl, fun pcs2 q2 hpcs2 => ?_⟩
    refine ⟨_, (ns.length : Int), .note, _, q2, rfl, rfl, rfl, rfl, by simp; omega, fun nm2 ms2 q3 => ?_⟩
    refine ⟨l ++ [Nd.mk (ns.length : Int) .note nm2 ms2 (.lst (pcs2.map Pc.enc))], q3, _, rfl, by simp, by simp [hll], fun n hn => ?_⟩
    rcases List.mem_append.mp hn with z | z
    · exact hno n z
    · rw [List.mem_singleton.mp z]; exact ⟨rfl, rfl, pcs2, rfl, hpcs2⟩
  · rintro ρ m ⟨l, q, x7, rfl, rfl, hll, hno⟩
    rw [rngD_len, Int.toNat_natCast] at hll
    refine ⟨trivial, _, l, q, rfl, rfl, by omega, fun n hn => by rw [(hno n hn).2.1]; rfl, Fo.one ⟨rfl, ?_, ?_, ?_, ⟨fun z => ?_, fun z => ?_⟩, fun z => ?_, fun z => ?_, fun z => ?_, fun z => ?_, fun _ => ⟨pcs, rfl, by rw [hll]; exact hpcs⟩⟩ (fo_notes hkd hno) ?_⟩
    all_goals (try simp only at *)
    · rcases hkd with rfl | rfl <;> decide
    · rintro rfl; cases hK
    · rintro rfl; cases hK
    · rcases hkd with rfl | rfl <;> cases z
    · rcases z with rfl | rfl <;> cases hK
    · rcases hkd with rfl | rfl <;> cases z
    · rcases hkd with rfl | rfl <;> cases z
    · rcases hkd with rfl | rfl <;> (rcases z with z | z <;> cases z)
    · rcases hkd with rfl | rfl <;> cases z
    · rcases hkd with rfl | rfl <;> decide
end
end LP
end

section
set_option maxHeartbeats 4000000
/-! L2c: the law's items and books. -/
namespace LP
open PySem PySem.Spec PyProof.Rows L2
def KDs : List Kd := [.text, .text, .picture, .case, .shelf, .grid, .head, .aside]
def Kd.leaf : Kd → Bool
  | .text => true | .head => true | .picture => true | _ => false
theorem kd_leaf (k : Kd) : decide (k.s ∈ (["text", "head", "picture"] : List Str)) = k.leaf := by cases k <;> decide +kernel
theorem leaf_cont {k : Kd} (h : k.leaf = true) : k.cont = false := by cases k <;> first | rfl | cases h
theorem wu_cont {k : Kd} (h1 : k.wu = true) (h2 : k.cont = true) : False := by cases k <;> first | (exact absurd h1 (by decide)) | (exact absurd h2 (by decide))
/-- a kind that may stand in a node of kind K -/
structure OKk (K : Kd) (kd : Kd) : Prop where
  nb : kd ≠ .body
  nn : kd ≠ .note
  as : kd = .aside → K ≠ .shelf ∧ K ≠ .grid
theorem OKk.text {K : Kd} : OKk K .text := ⟨by decide, by decide, fun z => by cases z⟩
theorem OKk.picture {K : Kd} : OKk K .picture := ⟨by decide, by decide, fun z => by cases z⟩
/-- how many nodes an item is at most -/
def fb : Nat → Nat
  | 0 => 0
  | d + 1 => 4 + 3 * fb d
structure ITg where
  ns : List Nd
  e : Nat
  K : Kd
  lv : Nat
  room : Int
  q : Int × Int
theorem kinds_at {K : Kd} {r : Int} (h0 : 0 ≤ r) (h1 : r < if K = .shelf ∨ K = .grid then 6 else 8) : ∃ kd : Kd, atI (KDs.map fun k => D.str k.s) r = some (.str kd.s) ∧ OKk K kd := by
  have h8 : r = 0 ∨ r = 1 ∨ r = 2 ∨ r = 3 ∨ r = 4 ∨ r = 5 ∨ r = 6 ∨ r = 7 := by split at h1 <;> omega
  rcases h8 with rfl | rfl | rfl | rfl | rfl | rfl | rfl | rfl
  · exact ⟨.text, rfl, .text⟩
  · exact ⟨.text, rfl, .text⟩
  · exact ⟨.picture, rfl, .picture⟩
  · exact ⟨.case, rfl, by decide, by decide, fun z => by cases z⟩
  · exact ⟨.shelf, rfl, by decide, by decide, fun z => by cases z⟩
  · exact ⟨.grid, rfl, by decide, by decide, fun z => by cases z⟩
  · exact ⟨.head, rfl, by decide, by decide, fun z => by cases z⟩
  · refine ⟨.aside, rfl, by decide, by decide, fun _ => ?_⟩
    split at h1
    · omega
    · rename_i h
      exact ⟨fun z => h (.inl z), fun z => h (.inr z)⟩
section
variable {P : Program} {w : World} {K : PySem.W.Frag} {mg : Str → Option Value} {base : Heap}
def ITok (d : Nat) (x : ITg) : Prop := x.lv + d = 5 ∧ 1 ≤ d ∧ x.K.cont = true ∧ x.ns.length + fb d ≤ 660 ∧ ∃ m, x.ns[x.e]? = some m ∧ m.kd = x.K
def S__law_item (d : Nat) : Spec ITg := ⟨fun x => [.ob 0, .dat (.int (x.e : Int)), .dat (.int (x.lv : Int)), .dat (.int x.room), .ob 1], fun x => [.lst (x.ns.map Nd.enc), stm x.q], ITok d,
  fun x s mu => s = .dat .non ∧ ∃ l q, mu = [.lst ((x.ns ++ l).map Nd.enc), stm q] ∧ Fo x.K x.lv x.e x.ns.length l ∧ l ≠ [] ∧ l.length ≤ fb d ∧ (x.room ≤ x.ns.length → (∀ n ∈ l, n.kd.cont = false) ∧ l.length ≤ 3)⟩
theorem law_item0 {d : Nat} (hd : d = 0) (T : Top K mg) : Has P w K mg base (5 + d) "_law_item" ["_law_nodes", "_law_elder", "_law_level", "_law_room_here", "_law_stream_here"] (spG K (S__law_item 0)) := by
  subst hd
  refine has_ok T.d__law_item sc__law_item (fun _ => rfl) (fun _ _ _ _ _ _ us hl => match us, hl with | [_, _, _, _, _], _ => rfl) (fun f cdv A outer s H E hr => ⟨_, pss_never, fun y hy => ?_⟩)
  exfalso
  have := hy.2.1
  omega
theorem ok__law_itemS (d : Nat) (h__law_item : Has P w K mg base (5 + d) "_law_item" ["_law_nodes", "_law_elder", "_law_level", "_law_room_here", "_law_stream_here"] (spG K (S__law_item d))) (T : Top K mg) : Has P w K mg base (5 + d + 1) "_law_item" ["_law_nodes", "_law_elder", "_law_level", "_law_room_here", "_law_stream_here"] (spG K (S__law_item (d + 1))) := by
  have h__law_take := ok__law_take (P := P) (w := w) (K := K) (base := base) T
  have h__law_text := ok__law_text (P := P) (w := w) (K := K) (base := base) T
  have h__law_add := ok__law_add (P := P) (w := w) (K := K) (base := base) T
  refine has_ok T.d__law_item sc__law_item (fun _ => rfl) (fun _ _ _ _ _ _ us hl => match us, hl with | [_, _, _, _, _], _ => rfl) (fun f cdv A outer s H E hr => ⟨_, (pss_cons (ps_set (i := 5) sc__law_item.nd rfl (.inl rfl) (pe_lst (pa_cons pe_str (pa_cons pe_str (pa_cons pe_str (pa_cons pe_str (pa_cons pe_str (pa_cons pe_str (pa_cons pe_str (pa_cons pe_str pa_nil))))))))))
      (pss_cons (ps_set (i := 6) sc__law_item.nd rfl (.inl rfl) (pe_or (pe_cmpR op_eq (pe_ix (ix_tupK (K := K) rfl) (pe_ix (ix_listK (K := K) rfl) (pv 0) (pv 1) (fun _ _ => rfl)) pe_int (fun _ _ => rfl)) pe_str (nomark _)) (pe_one (pe_cmpR op_eq (pe_ix (ix_tupK (K := K) rfl) (pe_ix (ix_listK (K := K) rfl) (pv 0) (pv 1) (fun _ _ => rfl)) pe_int (fun _ _ => rfl)) pe_str (nomark _)))))
      (pss_cons (ps_set (i := 7) sc__law_item.nd rfl (.inl rfl) (pe_ix (ix_listK (K := K) rfl) (pv 5) (pe_has h__law_take hr (by omega) (by rfl) (pa_cons (pv 4) (pa_cons (pe_ix (ix_listK (K := K) rfl) (pe_lst (pa_cons pe_int (pa_cons pe_int pa_nil))) (pe_callTy call_int1 (by rfl) T.b_int bt_int (pa_cons (pv 6) pa_nil)) (fun _ _ => rfl)) pa_nil))) (fun _ _ => rfl)))
      (pss_cons (ps_if (PW.pt (pw_or (PW.pt (pw_and (pt_cmpR op_eq (pv 7) pe_str (nomark _)) (pw_and1 (pt_cmpR op_eq (pe_ix (ix_tupK (K := K) rfl) (pe_ix (ix_listK (K := K) rfl) (pv 0) (pv 1) (fun _ _ => rfl)) pe_int (fun _ _ => rfl)) pe_str (nomark _))))) (pw_or1 (PW.pt (pw_and (pt_cmpR op_gt (pv 2) pe_int (nomark _)) (pw_and1 (pt_cmpR (op_niK (K := K) rfl) (pv 7) (pe_lst (pa_cons pe_str (pa_cons pe_str (pa_cons pe_str pa_nil)))) (by rfl)))))))) (pss_one (ps_set (i := 7) sc__law_item.nd rfl (.inl rfl) pe_str)) pss_nil)
      (pss_cons (ps_if (PW.pt (pw_and (pt_cmpR op_ge (pe_callB (call_lenK (K := K) rfl) (by rfl) T.b_len bt_len (pa_cons (pv 0) pa_nil)) (pv 3) (nomark _)) (pw_and1 (pt_cmpR (op_niK (K := K) rfl) (pv 7) (pe_lst (pa_cons pe_str (pa_cons pe_str (pa_cons pe_str pa_nil)))) (by rfl))))) (pss_one (ps_set (i := 7) sc__law_item.nd rfl (.inl rfl) pe_str)) pss_nil)
      (pss_cons (ps_if (PW.pt (pw_or (pt_cmpR op_eq (pv 7) pe_str (nomark _)) (pw_or1 (pt_cmpR op_eq (pv 7) pe_str (nomark _))))) (pss_one (ps_expr (pe_has h__law_text hr (by omega) (by rfl) (pa_cons (pv 0) (pa_cons (pv 1) (pa_cons (pv 7) (pa_cons (pv 4) pa_nil))))))) (pss_one (ps_if (pt_cmpR op_eq (pv 7) pe_str (nomark _)) (pss_one (ps_expr (pe_has h__law_add hr (by omega) (by rfl) (pa_cons (pv 0) (pa_cons (pv 1) (pa_cons (pv 7) (pa_cons (pe_lst (pa_cons (pe_op op_add pe_int (pe_has h__law_take hr (by omega) (by rfl) (pa_cons (pv 4) (pa_cons pe_int pa_nil)))) (pa_cons (pe_op op_add pe_int (pe_has h__law_take hr (by omega) (by rfl) (pa_cons (pv 4) (pa_cons pe_int pa_nil)))) pa_nil))) (pa_cons (pv 4) pa_nil)))))))) (pss_cons (ps_set (i := 8) sc__law_item.nd rfl (.inl rfl) (pe_has h__law_add hr (by omega) (by rfl) (pa_cons (pv 0) (pa_cons (pv 1) (pa_cons (pv 7) (pa_cons (pe_lst pa_nil) (pa_cons (pv 4) pa_nil)))))))
      (pss_one (ps_for PassesOwn.never rfl (pi_range1 (by rfl) T.b_range (pa_cons (pe_op op_add (pe_has h__law_take hr (by omega) (by rfl) (pa_cons (pv 4) (pa_cons pe_int pa_nil))) (pe_callTy call_int1 (by rfl) T.b_int bt_int (pa_cons (pe_cmpR op_ne (pv 7) pe_str (nomark _)) pa_nil))) pa_nil)) (pg_name (i := 9) sc__law_item.nd rfl (.inl rfl)) (pss_one (ps_expr (pe_has h__law_item hr (by omega) (by rfl) (pa_cons (pv 0) (pa_cons (pv 8) (pa_cons (pe_op op_add (pv 2) pe_int) (pa_cons (pv 3) (pa_cons (pv 4) pa_nil))))))))))))))
      (pss_one (ps_if (pt_cmpR op_eq (pv 7) pe_str (nomark _)) (pss_one (ps_expr (pe_has h__law_text hr (by omega) (by rfl) (pa_cons (pv 0) (pa_cons (pv 1) (pa_cons pe_str (pa_cons (pv 4) pa_nil))))))) pss_nil)))))))), ?_⟩)
  rintro ⟨ns, e, Kk, lv, room, q⟩ hp
  simp only [cxOf, Cx.nox, Cx.wish, Cx.blk, S__law_item, N__law_item, startR, PSpec.S_args, PSpec.S_mu, PSpec.S_pre, PSpec.S_post, List.map_cons, List.map_nil, List.length_cons, List.length_nil, Nat.reduceAdd, Nat.reduceSub, List.replicate_succ, List.replicate_zero, List.cons_append, List.nil_append, List.append_nil] at hp ⊢
  obtain ⟨hlv, _, hK, hl, m, hm, hmk⟩ := hp
  try simp only at hlv hK hl hm hmk
  have hfb : fb (d + 1) = 4 + 3 * fb d := rfl
  have hme : ∀ l : List Nd, (ns ++ l)[e]? = some m := fun l => by rw [List.getElem?_append_left (List.getElem?_eq_some_iff.mp hm).1]; exact hm
  walk_at "gi"
  refine we_lst ?_
  walk_at "gi"
  refine ⟨by decide, ?_⟩
  have hgrid : m.kd.s ≠ ("shelf" : Str) → (m.kd.s = ("grid" : Str) ↔ (Kk = .shelf ∨ Kk = .grid)) := fun h => by
    constructor
    · intro z
      exact .inr (by rw [← hmk]; exact Kd.inj (b := .grid) z)
    · rintro (z | z)
      · exact absurd (by rw [hmk, z]; rfl) h
      · rw [hmk, z]; rfl
  refine ws_seq (ws_set (we_mono (Φ' := fun s mu => s = .dat (.bl (decide (Kk = .shelf ∨ Kk = .grid))) ∧ mu = [.lst (ns.map Nd.enc), stm q]) ?_ ?_))
  · walk_at "go"
    refine wr_ixL (isl_m rfl) (at_m hm) ?_
    walk_at "go"
    refine ifd (fun h => ⟨?_, rfl⟩) (fun h => ?_)
    · have : Kk = .shelf := by rw [← hmk]; exact Kd.inj (b := .shelf) h
      rw [show decide (Kk = .shelf ∨ Kk = .grid) = true from decide_eq_true (.inl this)]
    · walk_at "go"
      refine wr_ixL (isl_m rfl) (at_m hm) ?_
      walk_at "go"
      refine ⟨?_, rfl⟩
      rw [decide_eq_decide.mpr (hgrid h)]
  rintro s mu ⟨rfl, rfl⟩
  walk_at "gi"
  refine we_tk rfl ?_
  refine we_op (we_lst2 ?_)
  walk_at "gi"
  have hmost : ∃ most : Int, (1 ≤ most ∧ most ≤ 1000000) ∧ (most = if Kk = .shelf ∨ Kk = .grid then 6 else 8) ∧ atI [D.int 8, .int 6] (if decide (Kk = .shelf ∨ Kk = .grid) = true then 1 else 0) = some (.int most) := by
    by_cases h : Kk = .shelf ∨ Kk = .grid
    · exact ⟨6, ⟨by omega, by omega⟩, by rw [if_pos h], by rw [decide_eq_true h]; rfl⟩
    · exact ⟨8, ⟨by omega, by omega⟩, by rw [if_neg h], by rw [decide_eq_false h]; rfl⟩
  obtain ⟨most, hmb, hme2, hmat⟩ := hmost
  refine wr_ixL isl_d hmat ?_
  refine ⟨most, q, rfl, hmb, rfl, fun r q1 b1 b2 => ?_⟩
  obtain ⟨kd0, hk0, hok0⟩ := kinds_at (K := Kk) b1 (by rw [← hme2]; exact b2)
  refine wr_ixL isl_d (ds := KDs.map fun k => D.str k.s) hk0 ?_
  walk_at "gi"
  have niT : ∀ {kd : Kd} {ρ : Rho} {mu : List Ct} {Ψ : Bool → List Ct → Prop}, ρ[7]? = some (some (.dat (.str kd.s))) → Ψ (!kd.leaf) mu → WT K (tTest (tOp (rIn K true) (tVar 7) (tLst (tCons (tC (.str "text")) (tCons (tC (.str "head")) (tCons (tC (.str "picture")) tNil)))))) ρ mu Ψ := fun {kd ρ mu Ψ} h k => by
    refine wt_test (we_op (we_var h (we_lst (wa_cons (we_str (wa_cons (we_str (wa_cons (we_str (wa_nil ⟨by decide, ?_⟩))))))))))
    refine wr_niL (ss := ["text", "head", "picture"]) isl_d ?_
    rw [kd_leaf]
    exact ⟨_, rfl, k⟩
  refine ws_mid (fun ρ mu => ∃ kd : Kd, ρ = [some (.ob 0), some (.dat (.int (e : Int))), some (.dat (.int (lv : Int))), some (.dat (.int room)), some (.ob 1), some (.dat (.lst (KDs.map fun k => D.str k.s))), some (.dat (.bl (decide (Kk = .shelf ∨ Kk = .grid)))), some (.dat (.str kd.s)), none, none] ∧
    mu = [.lst (ns.map Nd.enc), stm q1] ∧ OKk Kk kd ∧ (kd.cont = true → lv ≤ 3)) ?_ ?_
  · refine ws_if (wt_mono (Ψ' := fun b mu => mu = [.lst (ns.map Nd.enc), stm q1] ∧ (b = false → kd0.cont = true → lv ≤ 3)) ?_ ?_)
    · have hleaf : ∀ b, b = (!kd0.leaf) → [Ct.lst (ns.map Nd.enc), stm q1] = [.lst (ns.map Nd.enc), stm q1] ∧ (b = false → kd0.cont = true → lv ≤ 3) := fun b hb => ⟨rfl, fun z hc => by
        rw [hb] at z
        have : kd0.leaf = true := by simpa using z
        rw [leaf_cont this] at hc; cases hc⟩
      walk_at "go"
      refine ifd (fun h => ?_) (fun h => iff' ?_)
      · walk_at "go"
        refine wr_ixL (isl_m rfl) (at_m hm) ?_
        walk_at "go"
        refine ifd (fun _ => ⟨rfl, fun z => by cases z⟩) (fun _ => ?_)
        walk_at "go"
        refine ifd (fun _ => ?_) (fun _ => ⟨rfl, fun _ _ => by omega⟩)
        exact niT rfl (hleaf _ rfl)
      · walk_at "go"
        refine ifd (fun _ => ?_) (fun _ => ⟨rfl, fun _ _ => by omega⟩)
        exact niT rfl (hleaf _ rfl)
    · rintro b mu ⟨rfl, hb⟩
      cases b with
      | true =>
        refine ift ?_
        walk_at "go"
        exact ⟨.text, rfl, rfl, .text, fun z => by cases z⟩
      | false =>
        refine iff' ?_
        walk_at "go"
        exact ⟨kd0, rfl, rfl, hok0, hb rfl⟩
  rintro ρ mu ⟨kd1, rfl, rfl, hok1, hlv1⟩
  walk_at "gi"
  refine ws_mid (fun ρ mu => ∃ kd : Kd, ρ = [some (.ob 0), some (.dat (.int (e : Int))), some (.dat (.int (lv : Int))), some (.dat (.int room)), some (.ob 1), some (.dat (.lst (KDs.map fun k => D.str k.s))), some (.dat (.bl (decide (Kk = .shelf ∨ Kk = .grid)))), some (.dat (.str kd.s)), none, none] ∧
    mu = [.lst (ns.map Nd.enc), stm q1] ∧ OKk Kk kd ∧ (kd.cont = true → lv ≤ 3) ∧ (room ≤ (ns.length : Int) → kd.cont = false)) ?_ ?_
  · refine ws_if (wt_mono (Ψ' := fun b mu => mu = [.lst (ns.map Nd.enc), stm q1] ∧ (b = false → room ≤ (ns.length : Int) → kd1.cont = false)) ?_ ?_)
    · walk_at "go"
      refine wc_len (isl_m rfl) ?_
      walk_at "go"
      refine ifd (fun _ => ?_) (fun h => ⟨rfl, fun _ z => by rw [List.length_map] at h; omega⟩)
      exact niT rfl ⟨rfl, fun z _ => leaf_cont (by simpa using z)⟩
    · rintro b mu ⟨rfl, hb⟩
      cases b with
      | true =>
        refine ift ?_
        walk_at "go"
        exact ⟨.picture, rfl, rfl, .picture, fun z => (by cases z), fun _ => rfl⟩
      | false =>
        refine iff' ?_
        walk_at "go"
        exact ⟨kd1, rfl, rfl, hok1, hlv1, hb rfl⟩
  rintro ρ mu ⟨kd, rfl, rfl, hok, hlvk, hroom⟩
  have hKn : Kk ≠ .note := fun z => by rw [z] at hK; cases hK
  have hKp : Kk ≠ .picture := fun z => by rw [z] at hK; cases hK
  have hKt : ¬ (Kk = .text ∨ Kk = .head) := fun z => by rcases z with z | z <;> (rw [z] at hK; cases hK)
  walk_at "gi"
  refine ws_mid (fun ρ mu => ∃ (n : Nd) (kids : List Nd) (q : Int × Int) (x8 x9 : Option SV), ρ = [some (.ob 0), some (.dat (.int (e : Int))), some (.dat (.int (lv : Int))), some (.dat (.int room)), some (.ob 1), some (.dat (.lst (KDs.map fun k => D.str k.s))), some (.dat (.bl (decide (Kk = .shelf ∨ Kk = .grid)))), some (.dat (.str kd.s)), x8, x9] ∧
    mu = [.lst ((ns ++ n :: kids).map Nd.enc), stm q] ∧ n.kd = kd ∧ (kd ≠ .aside → Fo Kk lv e ns.length (n :: kids)) ∧ (kd = .aside → NdOk Kk lv e n kids ∧ Fo .aside (lv + 1) ns.length (ns.length + 1) kids) ∧ kids.length ≤ 3 * fb d + 2 ∧ (kd = .aside → kids.length ≤ 3 * fb d) ∧ (room ≤ (ns.length : Int) → (∀ x ∈ n :: kids, x.kd.cont = false) ∧ kids.length ≤ 2)) ?_ ?_
  · refine ws_if (wt_mono (Ψ' := fun b mu => mu = [.lst (ns.map Nd.enc), stm q1] ∧ b = decide (kd = .text ∨ kd = .head)) ?_ ?_)
    · walk_at "go"
      refine ifd (fun h => ⟨rfl, (decide_eq_true (.inl (Kd.inj (b := .text) h))).symm⟩) (fun h => ?_)
      walk_at "go"
      exact ⟨rfl, decide_eq_decide.mpr ⟨fun z => .inr (Kd.inj (b := .head) z), fun z => by
        rcases z with z | z
        · exact absurd (by rw [z]; rfl) h
        · rw [z]; rfl⟩⟩
    rintro b mu ⟨rfl, rfl⟩
    refine ifd (fun htx => ?_) (fun hnt => ?_)
    · walk_at "go"
      refine we_callM ?_
      walk_at "go"
      refine ⟨⟨ns, e, kd, q1, Kk, lv⟩, [0, 1], rfl, by decide, rfl, fun i hi => ?_, ⟨htx, hK, by show ns.length ≤ 672; omega⟩, ?_⟩
      · simp [S__law_text] at hi; rcases hi with rfl | rfl <;> decide
      rintro s mc ⟨rfl, t, r, q3, rfl, ht, hr, hrc, hF⟩
      try simp only at ht hr hF
      refine ⟨t, r, q3, _, _, rfl, rfl, ht, fun _ => hF, fun z => ?_, by omega, fun z => ?_, fun _ => ⟨fun x hx => ?_, hr⟩⟩
      · rcases htx with y | y <;> (rw [y] at z; cases z)
      · rcases htx with y | y <;> (rw [y] at z; cases z)
      · rcases List.mem_cons.mp hx with z | z
        · rw [z, ht]
          rcases htx with y | y <;> (rw [y]; rfl)
        · exact hrc x z
    walk_at "go"
    refine ifd (fun h => ?_) (fun hnp => ?_)
    · have hkp : kd = .picture := Kd.inj (b := .picture) h
      walk_at "go"
      refine we_ad rfl rfl ?_
      walk_at "go"
      refine we_lst2 ?_
      walk_at "go"
      refine we_tk rfl ?_
      walk_at "go"
      refine ⟨60, q1, rfl, ⟨by omega, by omega⟩, rfl, fun r2 q2 c1 c2 => ?_⟩
      walk_at "go"
      refine we_tk rfl ?_
      walk_at "go"
      refine ⟨60, q2, rfl, ⟨by omega, by omega⟩, rfl, fun r3 q3 c3 c4 => ?_⟩
      walk_at "go"
      refine ⟨ns, (e : Int), kd, _, q3, rfl, rfl, rfl, rfl, by omega, fun nm ms q4 => ?_⟩
      refine ⟨Nd.mk (e : Int) kd nm ms (.lst [.int (1 + r2), .int (1 + r3)]), [], q4, _, _, rfl, rfl, rfl, fun _ => Fo.one ⟨rfl, hok.nb, hKn, hKp, ⟨fun z => absurd z hok.nn, fun z => absurd z hKt⟩, hok.as, fun z => ?_, fun z => ?_, fun _ => ⟨_, _, rfl, by omega, by omega, by omega, by omega⟩, fun z => ?_⟩ .nil ?_, fun z => ?_, by simp, fun z => by simp, fun _ => ⟨fun x hx => ?_, by simp⟩⟩
      · exact hlvk z
      · exfalso; rcases z with z | z <;> (have z : kd = _ := z; rw [hkp] at z; cases z)
      · have z : kd.wu = true := z
        rw [hkp] at z; cases z
      · show kd ≠ .aside
        rw [hkp]; decide
      · rw [hkp] at z; cases z
      · rw [List.mem_singleton.mp hx]
        show kd.cont = false
        rw [hkp]; rfl
    have hkc : kd.cont = true := by
      have h1 := hok.nb
      have h2 := hok.nn
      cases q : kd <;> rw [q] at h1 h2 hnt hnp <;> first | rfl | (exact absurd rfl h2) | (exact absurd (.inl rfl) hnt) | (exact absurd (.inr rfl) hnt) | (exact absurd rfl hnp)
    have hlv3 := hlvk hkc
    have hd1 : 1 ≤ d := by omega
    walk_at "go"
    refine we_ad rfl rfl ?_
    walk_at "go"
    refine we_lst0 ?_
    refine ⟨ns, (e : Int), kd, _, q1, rfl, rfl, rfl, rfl, by omega, fun nm ms q4 => ?_⟩
    generalize hn : Nd.mk (e : Int) kd nm ms (SV.dat (D.lst [])).toD = n
    have hnk : n.kd = kd := by rw [← hn]
    have hne : n.el = (e : Int) := by rw [← hn]
    walk_at "go"
    refine ws_forE (wi_r1 ?_)
    walk_at "go"
    refine we_tk rfl ?_
    walk_at "go"
    refine ⟨3, q4, rfl, ⟨by omega, by omega⟩, rfl, fun r5 q5 c1 c2 => ?_⟩
    walk_at "go"
    obtain ⟨cs, hcs, hcs2⟩ : ∃ cs : Int, (if (!decide (kd.s = ("case" : Str))) = true then (1 : Int) else 0) = cs ∧ 0 ≤ cs ∧ cs ≤ 1 ∧ (kd ≠ .case → cs = 1) := by
      by_cases h : kd = .case
      · exact ⟨0, by rw [h]; rfl, by omega, by omega, fun z => absurd h z⟩
      · refine ⟨1, ?_, by omega, by omega, fun _ => rfl⟩
        rw [if_pos]
        have : ¬ kd.s = ("case" : Str) := fun z => h (Kd.inj (b := .case) z)
        simp [this]
    rw [hcs]
    refine ⟨_, rfl, by omega, fun i ρ mu => ∃ (kids : List Nd) (q : Int × Int) (x9 : Option SV), ρ = [some (.ob 0), some (.dat (.int (e : Int))), some (.dat (.int (lv : Int))), some (.dat (.int room)), some (.ob 1), some (.dat (.lst (KDs.map fun k => D.str k.s))), some (.dat (.bl (decide (Kk = .shelf ∨ Kk = .grid)))), some (.dat (.str kd.s)), some (.dat (.int (ns.length : Int))), x9] ∧
      mu = [.lst ((ns ++ n :: kids).map Nd.enc), stm q] ∧ Fo kd (lv + 1) ns.length (ns.length + 1) kids ∧ kids.length ≤ i * fb d ∧ (0 < i → kids ≠ []), ⟨[], q5, _, rfl, by rw [← hn]; rfl, .nil, by simp, fun h => absurd h (Nat.lt_irrefl _)⟩, ?_, ?_⟩
    · rintro i dd ρ mu hd ⟨kids, q, x9, rfl, rfl, hF, hkl, _⟩
      obtain ⟨hi, rfl⟩ := rngD_get hd
      have hi3 : i ≤ 2 := by omega
      have hmul : kids.length + fb d ≤ 3 * fb d := by
        have h1 : (i + 1) * fb d ≤ 3 * fb d := Nat.mul_le_mul_right _ (by omega)
        rw [Nat.add_mul, Nat.one_mul] at h1
        omega
      walk_at "go"
      refine we_callM ?_
      walk_at "go"
      refine ⟨⟨ns ++ n :: kids, ns.length, kd, lv + 1, room, q⟩, [0, 1], rfl, by decide, rfl, fun i hi => ?_, ⟨by show lv + 1 + d = 5; omega, hd1, hkc, by simp only [List.length_append, List.length_cons]; omega, n, by simp, hnk⟩, ?_⟩
      · simp [S__law_item] at hi; rcases hi with rfl | rfl <;> decide
      rintro s mc ⟨rfl, l, q6, rfl, hFl, hlne, hll, _⟩
      try simp only at hFl hll
      refine ⟨kids ++ l, q6, _, rfl, ?_, hF.append ?_, ?_, fun _ => ?_⟩
      · show [Ct.lst ((ns ++ n :: kids ++ l).map Nd.enc), stm q6] = _
        simp
      · have : (ns ++ n :: kids).length = ns.length + 1 + kids.length := by simp; omega
        rw [this] at hFl; exact hFl
      · rw [List.length_append, Nat.add_mul, Nat.one_mul]; omega
      · intro z
        exact hlne (List.append_eq_nil_iff.mp z).2
    · rintro ρ mu ⟨kids, q, x9, rfl, rfl, hF, hkl, hkne⟩
      rw [rngD_len] at hkl hkne
      have hcnt : (r5 + cs).toNat ≤ 3 := by omega
      have hkl3 : kids.length ≤ 3 * fb d := Nat.le_trans hkl (Nat.mul_le_mul_right _ hcnt)
      have hN : NdOk Kk lv e n kids := ⟨hne, by rw [hnk]; exact hok.nb, hKn, hKp, ⟨fun z => by rw [hnk] at z; exact absurd z hok.nn, fun z => absurd z hKt⟩, fun z => hok.as (by rw [← hnk]; exact z), fun _ => hlv3, fun z => hkne (by
        have : kd ≠ .case := fun y => by rw [hnk, y] at z; rcases z with z | z <;> cases z
        have := hcs2.2.2 this
        omega), fun z => by rw [hnk] at z; exact absurd (by rw [z]; rfl) hnp, fun z => by
        rw [hnk] at z
        exact (wu_cont z hkc).elim⟩
      exact ⟨n, kids, q, _, _, rfl, rfl, hnk, fun ha => Fo.one hN (by rw [hnk]; exact hF) (by rw [hnk]; exact ha), fun ha => ⟨hN, by rw [← ha]; exact hF⟩, by omega, fun _ => hkl3, fun z => by rw [hroom z] at hkc; cases hkc⟩
  rintro ρ mu ⟨n, kids, q2, x8, x9, rfl, rfl, hnk, hF1, hF2, hkl, hkl2, hrk⟩
  walk_at "go"
  refine ifd (fun h => ?_) (fun h => ?_)
  · have ha : kd = .aside := Kd.inj (b := .aside) h
    obtain ⟨g1, g2⟩ := hF2 ha
    have hkl2 := hkl2 ha
    walk_at "go"
    refine we_callM ?_
    refine wa_cons (we_var rfl (wa_cons (we_var rfl (wa_cons (we_str (wa_cons (we_var rfl (wa_nil ?_))))))))
    refine ⟨⟨ns ++ n :: kids, e, .text, q2, Kk, lv⟩, [0, 1], rfl, by decide, rfl, fun i hi => ?_, ⟨.inl rfl, hK, by simp only [List.length_append, List.length_cons]; omega⟩, ?_⟩
    · simp [S__law_text] at hi; rcases hi with rfl | rfl <;> decide
    rintro s mc ⟨rfl, t, r, q3, rfl, ht, hr, hrc, hF⟩
    try simp only at ht hr hF
    refine ⟨trivial, n :: (kids ++ t :: r), q3, ?_, ?_, by simp, ?_, fun z => ?_⟩
    · show [Ct.lst ((ns ++ n :: kids ++ t :: r).map Nd.enc), stm q3] = _
      simp
    · refine .cons g1 (by rw [hnk, ha]; exact g2) (fun _ => ⟨t, r, rfl, ht⟩) ?_
      have : (ns ++ n :: kids).length = ns.length + 1 + kids.length := by simp; omega
      rw [this] at hF; exact hF
    · simp; omega
    · have := hroom z
      rw [ha] at this; cases this
  · have ha : kd ≠ .aside := fun z => h (by rw [z]; rfl)
    walk_at "go"
    exact ⟨trivial, n :: kids, q2, rfl, hF1 ha, by simp, by simp; omega, fun z => ⟨(hrk z).1, by have := (hrk z).2; simp; omega⟩⟩
theorem ok__law_item (T : Top K mg) : Has P w K mg base 9 "_law_item" ["_law_nodes", "_law_elder", "_law_level", "_law_room_here", "_law_stream_here"] (spG K (S__law_item 4)) :=
  ok__law_itemS 3 (ok__law_itemS 2 (ok__law_itemS 1 (ok__law_itemS 0 (law_item0 rfl T) T) T) T) T
end
end LP
end

section
set_option maxHeartbeats 4000000
/-! L3: the law's books, looks, faces, shown. -/
namespace LP
open PySem PySem.Spec PyProof.Rows L2
theorem Fo.deep {K : Kd} {lv e a : Nat} {l : List Nd} (h : Fo K lv e a l) (hc : ∀ n ∈ l, n.kd.cont = false) : ∀ lv', Fo K lv' e a l := by
  induction h with
  | nil => intro lv'; exact .nil
  | @cons K lv e a n kids rest h1 hk ha hr ihk ihr =>
    intro lv'
    refine .cons ⟨h1.el, h1.nb, h1.kn, h1.kp, h1.nt, h1.as, fun z => ?_, h1.full, h1.pic, h1.pie⟩ (ihk (fun x hx => hc x (List.mem_cons_of_mem _ (List.mem_append_left _ hx))) _) ha (ihr (fun x hx => hc x (List.mem_cons_of_mem _ (List.mem_append_right _ hx))) _)
    rw [hc n List.mem_cons_self] at z; cases z
def ROOT : Nd := Nd.mk (-1) .body "" (.lst []) (.lst [])
section
variable {P : Program} {w : World} {K : PySem.W.Frag} {mg : Str → Option Value} {base : Heap}
structure BKg where
  q : Int × Int
  many : Nat
  room : Int
def S__law_book : Spec BKg := ⟨fun x => [.ob 0, .dat (.int (x.many : Int)), .dat (.int x.room)], fun x => [stm x.q], fun x => x.many ≤ 4 ∧ 1 ≤ x.many,
  fun x s mu => s = .ob 1 ∧ ∃ l q, mu = [stm q, .lst ((ROOT :: l).map Nd.enc)] ∧ Fo .body 1 0 1 l ∧ l ≠ [] ∧ l.length ≤ x.many * 160⟩
theorem ok__law_book (T : Top K mg) : Has P w K mg base 10 "_law_book" ["_law_stream_here", "_law_many", "_law_room_here"] (spG K S__law_book) := by
  have h__law_item := ok__law_item (P := P) (w := w) (K := K) (base := base) T
  refine has_ok T.d__law_book sc__law_book (fun _ => rfl) (fun _ _ _ _ _ _ us hl => match us, hl with | [_, _, _], _ => rfl) (fun f cdv A outer s H E hr => ⟨_, (pss_cons (ps_set (i := 3) sc__law_book.nd rfl (.inl rfl) (pe_lst (pa_cons (pe_tup (pa_cons (pe_un un_neg pe_int) (pa_cons pe_str (pa_cons pe_str (pa_cons (pe_lst pa_nil) (pa_cons (pe_lst pa_nil) pa_nil)))))) pa_nil)))
      (pss_cons (ps_for PassesOwn.never rfl (pi_range1 (by rfl) T.b_range (pa_cons (pv 1) pa_nil)) (pg_name (i := 4) sc__law_book.nd rfl (.inl rfl)) (pss_one (ps_expr (pe_has h__law_item hr (by omega) (by rfl) (pa_cons (pv 3) (pa_cons pe_int (pa_cons pe_int (pa_cons (pv 2) (pa_cons (pv 0) pa_nil)))))))))
      (pss_one (ps_ret (pv 3))))), ?_⟩)
  rintro ⟨q, many, room⟩ hp
  simp only [cxOf, Cx.nox, Cx.wish, Cx.blk, S__law_book, N__law_book, startR, PSpec.S_args, PSpec.S_mu, PSpec.S_pre, PSpec.S_post, List.map_cons, List.map_nil, List.length_cons, List.length_nil, Nat.reduceAdd, Nat.reduceSub, List.replicate_succ, List.replicate_zero, List.cons_append, List.nil_append, List.append_nil] at hp ⊢
  obtain ⟨hm, hm1⟩ := hp
  walk_at "go"
  refine we_lstM1 ?_
  walk_at "go"
  refine we_lst0 ?_
  walk_at "go"
  refine we_lst0 ?_
  walk_at "go"
  refine ws_for (fun i ρ m => ∃ (l : List Nd) (q : Int × Int) (x4 : Option SV), ρ = [some (.ob 0), some (.dat (.int (many : Int))), some (.dat (.int room)), some (.ob 1), x4] ∧ m = [stm q, .lst ((ROOT :: l).map Nd.enc)] ∧ Fo .body 1 0 1 l ∧ l.length ≤ i * 160 ∧ (0 < i → l ≠ [])) (wi_r1 ?_)
  walk_at "go"
  refine ⟨_, rfl, by omega, ⟨[], q, _, rfl, rfl, .nil, by simp, fun h => absurd h (Nat.lt_irrefl _)⟩, ?_, ?_⟩
  · rintro i dd ρ m hd ⟨l, q, x4, rfl, rfl, hF, hl, _⟩
    obtain ⟨hi, rfl⟩ := rngD_get hd
    walk_at "go"
    refine we_callM ?_
    walk_at "go"
    refine ⟨⟨ROOT :: l, 0, .body, 1, room, q⟩, [1, 0], rfl, by decide, rfl, fun i hi => ?_, ⟨rfl, by decide, rfl, by show (ROOT :: l).length + 160 ≤ 660; simp; omega, ROOT, rfl, rfl⟩, ?_⟩
    · simp [S__law_item] at hi; rcases hi with rfl | rfl <;> decide
    rintro s mc ⟨rfl, l2, q2, rfl, hF2, hne, hl2, _⟩
    try simp only at hF2 hl2
    have hl3 : l2.length ≤ 160 := hl2
    refine ⟨l ++ l2, q2, _, rfl, rfl, hF.append ?_, by rw [List.length_append]; omega, fun _ z => hne (List.append_eq_nil_iff.mp z).2⟩
    have : (ROOT :: l).length = 1 + l.length := by simp; omega
    rw [this] at hF2; exact hF2
  · rintro ρ m ⟨l, q, x4, rfl, rfl, hF, hl, hne⟩
    rw [rngD_len, Int.toNat_natCast] at hl hne
    walk_at "go"
    exact ret_o (Nat.le_refl _) rfl ⟨rfl, l, q, rfl, hF, hne (by omega), hl⟩

structure WDg where
  l : List Nd
  q : Int × Int
def S__law_wide : Spec WDg := ⟨fun x => [.ob 0, .ob 1], fun x => [.lst ((ROOT :: x.l).map Nd.enc), stm x.q], fun x => x.l.length ≤ 200,
  fun x s mu => s = .dat .non ∧ ∃ l q, mu = [.lst ((ROOT :: (x.l ++ l)).map Nd.enc), stm q] ∧ Fo .body 1 0 (1 + x.l.length) l ∧ l.length ≤ 210⟩
theorem sg_at {r : Int} (h0 : 0 ≤ r) (h1 : r < 2) : ∃ kd : Kd, atI [D.str "shelf", .str "grid"] r = some (.str kd.s) ∧ (kd = .shelf ∨ kd = .grid) := by
  have : r = 0 ∨ r = 1 := by omega
  rcases this with rfl | rfl
  · exact ⟨.shelf, rfl, .inl rfl⟩
  · exact ⟨.grid, rfl, .inr rfl⟩
theorem ok__law_wide (T : Top K mg) : Has P w K mg base 10 "_law_wide" ["_law_nodes", "_law_stream_here"] (spG K S__law_wide) := by
  have h__law_add := ok__law_add (P := P) (w := w) (K := K) (base := base) T
  have h__law_take := ok__law_take (P := P) (w := w) (K := K) (base := base) T
  have h__law_item := ok__law_item (P := P) (w := w) (K := K) (base := base) T
  refine has_ok T.d__law_wide sc__law_wide (fun _ => rfl) (fun _ _ _ _ _ _ us hl => match us, hl with | [_, _], _ => rfl) (fun f cdv A outer s H E hr => ⟨_, (pss_cons (ps_set (i := 2) sc__law_wide.nd rfl (.inl rfl) (pe_has h__law_add hr (by omega) (by rfl) (pa_cons (pv 0) (pa_cons pe_int (pa_cons (pe_ix (ix_listK (K := K) rfl) (pe_lst (pa_cons pe_str (pa_cons pe_str pa_nil))) (pe_has h__law_take hr (by omega) (by rfl) (pa_cons (pv 1) (pa_cons pe_int pa_nil))) (fun _ _ => rfl)) (pa_cons (pe_lst pa_nil) (pa_cons (pv 1) pa_nil)))))))
      (pss_one (ps_for PassesOwn.never rfl (pi_range1 (by rfl) T.b_range (pa_cons (pe_op op_add pe_int (pe_has h__law_take hr (by omega) (by rfl) (pa_cons (pv 1) (pa_cons pe_int pa_nil)))) pa_nil)) (pg_name (i := 3) sc__law_wide.nd rfl (.inl rfl)) (pss_one (ps_expr (pe_has h__law_item hr (by omega) (by rfl) (pa_cons (pv 0) (pa_cons (pv 2) (pa_cons pe_int (pa_cons pe_int (pa_cons (pv 1) pa_nil))))))))))), ?_⟩)
  rintro ⟨l0, q⟩ hp
  simp only [cxOf, Cx.nox, Cx.wish, Cx.blk, S__law_wide, N__law_wide, startR, PSpec.S_args, PSpec.S_mu, PSpec.S_pre, PSpec.S_post, List.map_cons, List.map_nil, List.length_cons, List.length_nil, Nat.reduceAdd, Nat.reduceSub, List.replicate_succ, List.replicate_zero, List.cons_append, List.nil_append, List.append_nil] at hp ⊢
  walk_at "go"
  refine we_ad rfl rfl ?_
  walk_at "go"
  refine we_lst2 ?_
  walk_at "go"
  refine we_tk rfl ?_
  walk_at "go"
  refine ⟨2, q, rfl, ⟨by omega, by omega⟩, rfl, fun r q1 b1 b2 => ?_⟩
  obtain ⟨kd, hk, hkd⟩ := sg_at b1 b2
  refine wr_ixL isl_d hk ?_
  walk_at "go"
  refine we_lst0 ?_
  refine ⟨ROOT :: l0, 0, kd, _, q1, rfl, rfl, rfl, rfl, by simp; omega, fun nm ms q2 => ?_⟩
  generalize hn : Nd.mk (0 : Int) kd nm ms (SV.dat (D.lst [])).toD = n
  have hnk : n.kd = kd := by rw [← hn]
  have hne : n.el = (0 : Int) := by rw [← hn]
  have hkc : kd.cont = true := by rcases hkd with rfl | rfl <;> rfl
  have hlen : (ROOT :: l0).length = 1 + l0.length := by simp; omega
  walk_at "go"
  refine ws_forE (wi_r1 ?_)
  walk_at "go"
  refine we_tk rfl ?_
  walk_at "go"
  refine ⟨6, q2, rfl, ⟨by omega, by omega⟩, rfl, fun r5 q5 c1 c2 => ?_⟩
  walk_at "go"
  refine ⟨_, rfl, by omega, fun i ρ mu => ∃ (kids : List Nd) (q : Int × Int) (x3 : Option SV), ρ = [some (.ob 0), some (.ob 1), some (.dat (.int ((ROOT :: l0).length : Int))), x3] ∧ mu = [.lst ((ROOT :: l0 ++ n :: kids).map Nd.enc), stm q] ∧
    Fo kd 2 (ROOT :: l0).length ((ROOT :: l0).length + 1) kids ∧ kids.length ≤ i * 20 ∧ (0 < i → kids ≠ []), ⟨[], q5, _, rfl, by rw [← hn]; rfl, .nil, by simp, fun h => absurd h (Nat.lt_irrefl _)⟩, ?_, ?_⟩
  · rintro i dd ρ m hd ⟨kids, q, x3, rfl, rfl, hF, hkl, _⟩
    obtain ⟨hi, rfl⟩ := rngD_get hd
    walk_at "go"
    refine we_callM ?_
    walk_at "go"
    refine ⟨⟨ROOT :: l0 ++ n :: kids, (ROOT :: l0).length, kd, 1, 0, q⟩, [0, 1], rfl, by decide, rfl, fun i hi => ?_, ⟨rfl, by decide, hkc, by show (ROOT :: l0 ++ n :: kids).length + 160 ≤ 660; rw [List.length_append, List.length_cons, List.length_cons]; omega, n, by rw [List.getElem?_append_right (Nat.le_refl _), Nat.sub_self]; rfl, hnk⟩, ?_⟩
    · simp [S__law_item] at hi; rcases hi with rfl | rfl <;> decide
    rintro s mc ⟨rfl, l2, q2, rfl, hF2, hlne, _, hroom⟩
    try simp only at hF2 hroom
    obtain ⟨hr1, hr2⟩ := hroom (by omega)
    have hF3 := hF2.deep hr1 2
    have hk2 : kids.length + l2.length ≤ (i + 1) * 20 := by omega
    refine ⟨kids ++ l2, q2, _, rfl, ?_, hF.append ?_, by rw [List.length_append]; exact hk2, fun _ z => hlne (List.append_eq_nil_iff.mp z).2⟩
    · show [Ct.lst ((ROOT :: l0 ++ n :: kids ++ l2).map Nd.enc), stm q2] = _
      simp
    · have : (ROOT :: l0 ++ n :: kids).length = (ROOT :: l0).length + 1 + kids.length := by simp; omega
      rw [this] at hF3; exact hF3
  · rintro ρ m ⟨kids, q, x3, rfl, rfl, hF, hkl, hkne⟩
    rw [rngD_len] at hkl hkne
    have hz : ∀ k : Kd, k ≠ .shelf → k ≠ .grid → n.kd ≠ k := fun k h1 h2 e => by
      rw [hnk] at e
      rcases hkd with y | y
      · exact h1 (e.symm.trans y)
      · exact h2 (e.symm.trans y)
    have hN : NdOk .body 1 0 n kids := by
      refine ⟨hne, hz _ (by decide) (by decide), by decide, by decide, ⟨fun z => absurd z (hz _ (by decide) (by decide)), fun z => ?_⟩, fun z => absurd z (hz _ (by decide) (by decide)), fun _ => by omega, fun _ => hkne (by omega), fun z => absurd z (hz _ (by decide) (by decide)), fun z => ?_⟩
      · rcases z with z | z <;> cases z
      · rw [hnk] at z; exact (wu_cont z hkc).elim
    refine ⟨trivial, n :: kids, q, ?_, ?_, by simp; omega⟩
    · show [Ct.lst ((ROOT :: l0 ++ n :: kids).map Nd.enc), stm q] = _
      simp
    · rw [hlen] at hF
      exact Fo.one hN (by rw [hnk]; exact hF) (by rw [hnk]; rcases hkd with rfl | rfl <;> decide)
end
end LP
end

section
set_option maxHeartbeats 4000000
/-! L3b: the law's looks, faces, shown. -/
namespace LP
open PySem PySem.Spec PyProof.Rows L2
def BD : List (Int × Int) := [(0, 99), (0, 3), (0, 9), (0, 9), (1, 9), (0, 60), (20, 200), (1, 6), (1, 6), (1, 4), (0, 1), (10, 90), (0, 1)]
/-- a look within its bounds, so far -/
def LkG (l : List Int) (j : Nat) : Prop := l.length = j ∧ ∀ (k : Nat) b, k < j → BD[k]? = some b → ∃ v, l[k]? = some v ∧ b.1 ≤ v ∧ v ≤ b.2
theorem lk_of {lks : List (List Int)} {i j : Nat} {l : List Int} {v : Int} (h1 : lks[i]? = some l) (h2 : l[j]? = some v) : lk lks i j = v := by
  unfold lk
  rw [h1, Option.getD_some, h2]; rfl
theorem LkG.lkR {lks : List (List Int)} {m : Nat} (hm : m ≤ lks.length) (h : ∀ l ∈ lks, LkG l 13) : LkR lks m := by
  have g : ∀ (i j : Nat) (b : Int × Int), i < m → BD[j]? = some b → b.1 ≤ lk lks i j ∧ lk lks i j ≤ b.2 := fun i j b hi hb => by
    have hl := getI (xs := lks) (i := i) (by omega)
    obtain ⟨v, h1, h2⟩ := (h _ (List.mem_of_getElem? hl)).2 j b (List.getElem?_eq_some_iff.mp hb).1 hb
    rw [lk_of hl h1]; exact h2
  exact ⟨⟨hm, fun l hl => (h l hl).1⟩, fun i hi => g i 2 (0, 9) hi rfl, fun i hi => g i 3 (0, 9) hi rfl, fun i hi => g i 4 (1, 9) hi rfl, fun i hi => g i 5 (0, 60) hi rfl, fun i hi => g i 6 (20, 200) hi rfl, fun i hi => g i 7 (1, 6) hi rfl, fun i hi => g i 8 (1, 6) hi rfl, fun i hi => g i 9 (1, 4) hi rfl, fun i hi => g i 11 (10, 90) hi rfl⟩
section
variable {P : Program} {w : World} {K : PySem.W.Frag} {mg : Str → Option Value} {base : Heap}
def S__law_looks : Spec (List Nd × (Int × Int)) := ⟨fun x => [.dat (encB x.1), .ob 0], fun x => [stm x.2], fun x => x.1.length ≤ 1000, fun x s mu => ∃ lks q, s = .dat (encLk lks) ∧ mu = [stm q] ∧ LkR lks x.1.length⟩
theorem ok__law_looks (T : Top K mg) : Has P w K mg base 2 "_law_looks" ["_law_book_here", "_law_stream_here"] (spG K S__law_looks) := by
  have h__law_take := ok__law_take (P := P) (w := w) (K := K) (base := base) T
  refine has_ok T.d__law_looks sc__law_looks (fun _ => rfl) (fun _ _ _ _ _ _ us hl => match us, hl with | [_, _], _ => rfl) (fun f cdv A outer s H E hr => ⟨_, (pss_cons (ps_set (i := 2) sc__law_looks.nd rfl (.inl rfl) (pe_lst (pa_cons (pe_tup (pa_cons pe_int (pa_cons pe_int pa_nil))) (pa_cons (pe_tup (pa_cons pe_int (pa_cons pe_int pa_nil))) (pa_cons (pe_tup (pa_cons pe_int (pa_cons pe_int pa_nil))) (pa_cons (pe_tup (pa_cons pe_int (pa_cons pe_int pa_nil))) (pa_cons (pe_tup (pa_cons pe_int (pa_cons pe_int pa_nil))) (pa_cons (pe_tup (pa_cons pe_int (pa_cons pe_int pa_nil))) (pa_cons (pe_tup (pa_cons pe_int (pa_cons pe_int pa_nil))) pa_nil)))))))))
      (pss_cons (ps_set (i := 2) sc__law_looks.nd rfl (.inl rfl) (pe_op op_cat (pv 2) (pe_lst (pa_cons (pe_tup (pa_cons pe_int (pa_cons pe_int pa_nil))) (pa_cons (pe_tup (pa_cons pe_int (pa_cons pe_int pa_nil))) (pa_cons (pe_tup (pa_cons pe_int (pa_cons pe_int pa_nil))) (pa_cons (pe_tup (pa_cons pe_int (pa_cons pe_int pa_nil))) (pa_cons (pe_tup (pa_cons pe_int (pa_cons pe_int pa_nil))) (pa_cons (pe_tup (pa_cons pe_int (pa_cons pe_int pa_nil))) pa_nil)))))))))
      (pss_cons (ps_set (i := 3) sc__law_looks.nd rfl (.inl rfl) (pe_lst pa_nil))
      (pss_cons (ps_for PassesOwn.never rfl (pi_listK (K := K) rfl (pv 0)) (pg_name (i := 4) sc__law_looks.nd rfl (.inl rfl)) (pss_cons (ps_set (i := 5) sc__law_looks.nd rfl (.inl rfl) (pe_lst pa_nil))
      (pss_cons (ps_for PassesOwn.never rfl (pi_listK (K := K) rfl (pv 2)) (pg_tupK (K := K) rfl rfl (pgs_cons (pg_name (i := 6) sc__law_looks.nd rfl (.inl rfl)) (pgs_cons (pg_name (i := 7) sc__law_looks.nd rfl (.inl rfl)) pgs_nil))) (pss_one (ps_expr (pe_bmK (K := K) rfl PySem.F.plainAttrs_list PySem.F.slot_list_append PySem.F.type_list_append mt_append (pv 5) (pa_cons (pe_op op_add (pv 6) (pe_has h__law_take hr (by omega) (by rfl) (pa_cons (pv 1) (pa_cons (pe_op op_add (pe_op op_sub (pv 7) (pv 6)) pe_int) pa_nil)))) pa_nil)))))
      (pss_one (ps_expr (pe_bmK (K := K) rfl PySem.F.plainAttrs_list PySem.F.slot_list_append PySem.F.type_list_append mt_append (pv 3) (pa_cons (pv 5) pa_nil)))))))
      (pss_one (ps_ret (pv 3))))))), ?_⟩)
  rintro ⟨ns, q0⟩ hp
  simp only [cxOf, Cx.nox, Cx.wish, Cx.blk, S__law_looks, N__law_looks, startR, PSpec.S_args, PSpec.S_mu, PSpec.S_pre, PSpec.S_post, List.map_cons, List.map_nil, List.length_cons, List.length_nil, Nat.reduceAdd, Nat.reduceSub, List.replicate_succ, List.replicate_zero, List.cons_append, List.nil_append, List.append_nil] at hp ⊢
  walk_at "go"
  refine we_lst ?_
  walk_at "go"
  refine ⟨by decide, ?_⟩
  walk_at "go"
  refine we_lst ?_
  walk_at "go"
  refine ⟨by decide, ?_⟩
  refine wr_cat isl_d isl_d (by decide) ?_
  walk_at "go"
  refine we_lstM0 ?_
  walk_at "go"
  refine ws_for (fun i ρ m => ∃ (lks : List (List Int)) (q : Int × Int) (x4 x5 x6 x7 : Option SV), ρ = [some (.dat (encB ns)), some (.ob 0), some (.dat (encP BD)), some (.ob 1), x4, x5, x6, x7] ∧ m = [stm q, .lst (lks.map encI)] ∧ lks.length = i ∧ ∀ l ∈ lks, LkG l 13) (wi_list ?_)
  walk_at "go"
  refine ⟨⟨[], q0, _, _, _, _, rfl, rfl, rfl, fun l h => by simp at h⟩, ?_, ?_⟩
  · rintro i dd ρ m hd ⟨lks, q, x4, x5, x6, x7, rfl, rfl, hl, hk⟩
    obtain ⟨n, hn, rfl⟩ := map_got hd
    have hi : i < ns.length := (List.getElem?_eq_some_iff.mp hn).1
    walk_at "go"
    refine we_lstM0 ?_
    walk_at "go"
    refine ws_for (fun j ρ m => ∃ (l : List Int) (q : Int × Int) (x6 x7 : Option SV), ρ = [some (.dat (encB ns)), some (.ob 0), some (.dat (encP BD)), some (.ob 1), some (.dat n.enc), some (.ob 2), x6, x7] ∧ m = [stm q, .lst (lks.map encI), .lst (l.map D.int)] ∧ LkG l j) (wi_list ?_)
    walk_at "go"
    refine ⟨⟨[], q, _, _, rfl, rfl, rfl, fun k b h => by omega⟩, ?_, ?_⟩
    · rintro j dd ρ m hd ⟨l, q, x6, x7, rfl, rfl, hlg⟩
      obtain ⟨b, hb, rfl⟩ := map_got hd
      have hj : j < 13 := (List.getElem?_eq_some_iff.mp hb).1
      have hbb : b.1 ≤ b.2 ∧ b.2 - b.1 ≤ 1000 := by
        have : ∀ b ∈ BD, b.1 ≤ b.2 ∧ b.2 - b.1 ≤ 1000 := by decide
        exact this b (List.mem_of_getElem? hb)
      walk_at "go"
      refine we_tk rfl ?_
      walk_at "go"
      refine ⟨_, q, rfl, ⟨by omega, by omega⟩, rfl, fun r q1 b1 b2 => ?_⟩
      walk_at "go"
      refine ap2 rfl (by rw [List.length_map, hlg.1]; omega) ?_
      walk_at "go"
      refine ⟨l ++ [b.1 + r], q1, _, _, rfl, by rw [List.map_append]; rfl, by rw [List.length_append, hlg.1]; rfl, fun k b' hk hb' => ?_⟩
      by_cases e : k = j
      · subst e
        rw [hb] at hb'; cases hb'
        exact ⟨b.1 + r, by rw [List.getElem?_append_right (by rw [hlg.1]; exact Nat.le_refl _), hlg.1, Nat.sub_self]; rfl, by omega, by omega⟩
      · obtain ⟨v, h1, h2⟩ := hlg.2 k b' (by omega) hb'
        exact ⟨v, by rw [List.getElem?_append_left (List.getElem?_eq_some_iff.mp h1).1]; exact h1, h2⟩
    · rintro ρ m ⟨l, q, x6, x7, rfl, rfl, hlg⟩
      refine ws_freeze (mu1 := [stm q, .lst (lks.map encI)]) rfl (Nat.le_of_ble_eq_true rfl) ?_
      simp only [thaw, List.map_cons, List.map_nil, List.length_cons, List.length_nil, Nat.zero_add, Nat.reduceAdd, if_neg (show ¬ (0 : Nat) = 2 by omega), if_neg (show ¬ (1 : Nat) = 2 by omega), if_true]
      walk_at "go"
      refine ap2 rfl (by rw [List.length_map]; omega) ?_
      walk_at "go"
      refine ⟨lks ++ [l], q, _, _, _, _, rfl, by rw [List.map_append]; rfl, by simp [hl], fun l' hl' => ?_⟩
      rcases List.mem_append.mp hl' with z | z
      · exact hk l' z
      · rw [List.mem_singleton.mp z]; exact hlg
  · rintro ρ m ⟨lks, q, x4, x5, x6, x7, rfl, rfl, hl, hk⟩
    rw [List.length_map] at hl
    walk_at "go"
    exact ret_m (Nat.le_refl _) rfl ⟨lks, q, rfl, rfl, LkG.lkR (by omega) hk⟩

def S__law_faces : Spec (Int × Int) := ⟨fun _ => [.ob 0], fun x => [stm x], fun _ => True, fun _ s mu => ∃ fs q, s = .dat (encFs fs) ∧ mu = [stm q] ∧ fs ≠ [] ∧ ∀ f ∈ fs, FcOk f⟩
theorem mil_at {r : Int} (h0 : 0 ≤ r) (h1 : r < 4) : ∃ z : Str, atI [D.str "", .str "M", .str "Mi", .str "Mil"] r = some (.str z) ∧ z.cps.size ≤ 3 := by
  have : r = 0 ∨ r = 1 ∨ r = 2 ∨ r = 3 := by omega
  rcases this with rfl | rfl | rfl | rfl
  · exact ⟨_, rfl, by decide +kernel⟩
  · exact ⟨_, rfl, by decide +kernel⟩
  · exact ⟨_, rfl, by decide +kernel⟩
  · exact ⟨_, rfl, by decide +kernel⟩
theorem ok__law_faces (T : Top K mg) : Has P w K mg base 2 "_law_faces" ["_law_stream_here"] (spG K S__law_faces) := by
  have h__law_take := ok__law_take (P := P) (w := w) (K := K) (base := base) T
  refine has_ok T.d__law_faces sc__law_faces (fun _ => rfl) (fun _ _ _ _ _ _ us hl => match us, hl with | [_], _ => rfl) (fun f cdv A outer s H E hr => ⟨_, (pss_cons (ps_set (i := 1) sc__law_faces.nd rfl (.inl rfl) (pe_lst pa_nil))
      (pss_cons (ps_for PassesOwn.never rfl (pi_range1 (by rfl) T.b_range (pa_cons (pe_op op_add pe_int (pe_has h__law_take hr (by omega) (by rfl) (pa_cons (pv 0) (pa_cons pe_int pa_nil)))) pa_nil)) (pg_name (i := 2) sc__law_faces.nd rfl (.inl rfl)) (pss_cons (ps_setLc (i := 3) (own := [("_law_sign", 4)]) (g := (gName 4)) (tt := tYes) rfl sc__law_faces.nd rfl rfl (sw_true rfl rfl rfl (by decide +kernel)) (pi_str (pe_ix (ix_listK (K := K) rfl) (pe_lst (pa_cons pe_str (pa_cons pe_str (pa_cons pe_str (pa_cons pe_str pa_nil))))) (pe_has h__law_take hr (by omega) (by rfl) (pa_cons (pv 0) (pa_cons pe_int pa_nil))) (fun _ _ => rfl))) (blkOk_by (N := N__law_faces) (sc := defScope s__law_faces) (by decide +kernel)) (fun _ _ _ _ _ => (pg_name (i := 4) sc__law_faces.nd rfl (.inl rfl))) (fun _ _ _ _ _ => pts_nil) (fun _ _ _ _ _ => (pe_tup (pa_cons (pv 4) (pa_cons (pe_op op_add pe_int (pe_has h__law_take hr (by omega) (by rfl) (pa_cons (pv 0) (pa_cons pe_int pa_nil)))) pa_nil)))))
      (pss_one (ps_expr (pe_bmK (K := K) rfl PySem.F.plainAttrs_list PySem.F.slot_list_append PySem.F.type_list_append mt_append (pv 1) (pa_cons (pe_tup (pa_cons (pe_op op_add pe_int (pe_has h__law_take hr (by omega) (by rfl) (pa_cons (pv 0) (pa_cons pe_int pa_nil)))) (pa_cons (pe_has h__law_take hr (by omega) (by rfl) (pa_cons (pv 0) (pa_cons pe_int pa_nil))) (pa_cons (pe_op op_add pe_int (pe_has h__law_take hr (by omega) (by rfl) (pa_cons (pv 0) (pa_cons pe_int pa_nil)))) (pa_cons (pv 3) pa_nil))))) pa_nil))))))
      (pss_one (ps_ret (pv 1))))), ?_⟩)
  rintro q0 hp
  simp only [cxOf, Cx.nox, Cx.wish, Cx.blk, S__law_faces, N__law_faces, startR, PSpec.S_args, PSpec.S_mu, PSpec.S_pre, PSpec.S_post, List.map_cons, List.map_nil, List.length_cons, List.length_nil, Nat.reduceAdd, Nat.reduceSub, List.replicate_succ, List.replicate_zero, List.cons_append, List.nil_append, List.append_nil] at hp ⊢
  walk_at "go"
  refine we_lstM0 ?_
  walk_at "go"
  refine ws_forE (wi_r1 ?_)
  walk_at "go"
  refine we_tk rfl ?_
  walk_at "go"
  refine ⟨4, q0, rfl, ⟨by omega, by omega⟩, rfl, fun r q b1 b2 => ?_⟩
  walk_at "go"
  refine ⟨_, rfl, by omega, fun i ρ m => ∃ (fs : List Fc) (q : Int × Int) (x2 x3 : Option SV), ρ = [some (.ob 0), some (.ob 1), x2, x3, none] ∧ m = [stm q, .lst (fs.map Fc.enc)] ∧ fs.length = i ∧ ∀ f ∈ fs, FcOk f, ⟨[], q, _, _, rfl, rfl, rfl, fun f h => by simp at h⟩, ?_, ?_⟩
  · rintro i dd ρ m hd ⟨fs, q, x2, x3, rfl, rfl, hl, hf⟩
    obtain ⟨hi, rfl⟩ := rngD_get hd
    walk_at "go"
    refine we_lcE (gin_name (by decide)) (wi_str ?_)
    walk_at "go"
    refine we_lst ?_
    walk_at "go"
    refine ⟨by decide, ?_⟩
    refine we_tk rfl ?_
    walk_at "go"
    refine ⟨4, q, rfl, ⟨by omega, by omega⟩, rfl, fun r2 q2 c1 c2 => ?_⟩
    obtain ⟨z, hz, hzl⟩ := mil_at c1 c2
    refine wr_ixL isl_d hz ?_
    refine so ?_
    have hsl : (strD z).length ≤ 3 := by unfold strD; simpa using hzl
    refine ⟨fun i ys m => ∃ (q : Int × Int) (odd : List (Str × Int)), m = [stm q, .lst (fs.map Fc.enc)] ∧ ys = odd.map (fun q => .tup [.str q.1, .int q.2]) ∧ odd.length = i ∧ ∀ p ∈ odd, 0 ≤ p.2 ∧ p.2 ≤ 100, ⟨q2, [], rfl, rfl, rfl, fun p h => by simp at h⟩, ?_, ?_⟩
    · rintro i dd ys m hd ⟨q, odd, rfl, rfl, hol, ho⟩ _
      have hi : i < (strD z).length := (List.getElem?_eq_some_iff.mp hd).1
      unfold strD at hd
      obtain ⟨c, hc, rfl⟩ := map_got hd
      walk_at "go"
      rw [if_pos rfl]
      walk_at "go"
      refine we_tk rfl ?_
      walk_at "go"
      refine ⟨9, q, rfl, ⟨by omega, by omega⟩, rfl, fun r3 q3 d1 d2 => ?_⟩
      walk_at "go"
      refine ⟨by omega, q3, odd ++ [(⟨#[c]⟩, 1 + r3)], rfl, by rw [List.map_append]; rfl, by simp [hol], fun p hp => ?_⟩
      rcases List.mem_append.mp hp with y | y
      · exact ho p y
      · rw [List.mem_singleton.mp y]; exact ⟨by simp only; omega, by simp only; omega⟩
    · rintro ys m ⟨q, odd, rfl, rfl, hol, ho⟩ _
      walk_at "go"
      refine we_tk rfl ?_
      walk_at "go"
      refine ⟨12, q, rfl, ⟨by omega, by omega⟩, rfl, fun r3 q3 d1 d2 => ?_⟩
      walk_at "go"
      refine we_tk rfl ?_
      walk_at "go"
      refine ⟨5, q3, rfl, ⟨by omega, by omega⟩, rfl, fun r4 q4 d3 d4 => ?_⟩
      walk_at "go"
      refine we_tk rfl ?_
      walk_at "go"
      refine ⟨6, q4, rfl, ⟨by omega, by omega⟩, rfl, fun r5 q5 d5 d6 => ?_⟩
      walk_at "go"
      refine ap2 rfl (by rw [List.length_map]; omega) ?_
      walk_at "go"
      refine ⟨fs ++ [⟨1 + r3, r4, 1 + r5, odd⟩], q5, _, _, rfl, by rw [List.map_append]; rfl, by simp [hl], fun f hf' => ?_⟩
      rcases List.mem_append.mp hf' with y | y
      · exact hf f y
      · rw [List.mem_singleton.mp y]
        exact ⟨⟨by simp only; omega, by simp only; omega⟩, ⟨by simp only; omega, by simp only; omega⟩, ⟨by simp only; omega, by simp only; omega⟩, by simp only; omega, ho⟩
  · rintro ρ m ⟨fs, q, x2, x3, rfl, rfl, hl, hf⟩
    rw [rngD_len] at hl
    walk_at "go"
    exact ret_m (Nat.le_refl _) rfl ⟨fs, q, rfl, rfl, fun e => by rw [e] at hl; simp at hl; omega, hf⟩

theorem digits : ∀ i : Nat, i ≤ 2000 → (Str.ofString (toString (i : Int))).cps.size ≤ 100 := by
  intro i hi
  exact Nat.le_trans (toString_length_le (v := (i : Int)) (k := 4) (by omega) (by decide) (by omega)) (by decide)
def S__law_shown : Spec (List Nd × (Int × Int)) := ⟨fun x => [.dat (encB x.1), .ob 0], fun x => [stm x.2], fun x => x.1.length ≤ 1000, fun x s mu => ∃ sh q, s = .dat (encSh sh) ∧ mu = [stm q] ∧ ShOk sh⟩
theorem ok__law_shown (T : Top K mg) : Has P w K mg base 2 "_law_shown" ["_law_book_here", "_law_stream_here"] (spG K S__law_shown) := by
  have h__law_take := ok__law_take (P := P) (w := w) (K := K) (base := base) T
  refine has_ok T.d__law_shown sc__law_shown (fun _ => rfl) (fun _ _ _ _ _ _ us hl => match us, hl with | [_, _], _ => rfl) (fun f cdv A outer s H E hr => ⟨_, (pss_cons (ps_setLc (i := 2) (own := [("_law_node", 3)]) (g := (gName 3)) rfl sc__law_shown.nd rfl rfl (sw_true rfl rfl rfl (by decide +kernel)) (pi_listK (K := K) rfl (pv 0)) (blkOk_by (N := N__law_shown) (sc := defScope s__law_shown) (by decide +kernel)) (fun _ _ _ _ _ => (pg_name (i := 3) sc__law_shown.nd rfl (.inl rfl))) (fun _ _ _ _ _ => (pts_one (pt_cmpR op_ne (pe_ix (ix_tupK (K := K) rfl) (pv 3) pe_int (fun _ _ => rfl)) pe_str (nomark _)))) (fun _ _ _ _ _ => (pe_ix (ix_tupK (K := K) rfl) (pv 3) pe_int (fun _ _ => rfl))))
      (pss_one (ps_ret (pe_lc (own := [("_law_name", 4)]) (g := (gName 4)) rfl sc__law_shown.nd (pi_listK (K := K) rfl (pv 2)) (blkOk_by (N := N__law_shown) (sc := defScope s__law_shown) (by decide +kernel)) (fun _ _ _ _ _ => (pg_name (i := 4) sc__law_shown.nd rfl (.inl rfl))) (fun _ _ _ _ _ => (pts_one (pt_cmpR op_gt (pe_has h__law_take hr (by omega) (by rfl) (pa_cons (pv 1) (pa_cons pe_int pa_nil))) pe_int (nomark _)))) (fun _ _ _ _ _ => (pe_tup (pa_cons (pv 4) (pa_cons (pe_callTy call_str_int (by rfl) T.b_str bt_str (pa_cons (pe_op op_add pe_int (pe_has h__law_take hr (by omega) (by rfl) (pa_cons (pv 1) (pa_cons pe_int pa_nil)))) pa_nil)) pa_nil)))))))), ?_⟩)
  rintro ⟨ns, q0⟩ hp
  simp only [cxOf, Cx.nox, Cx.wish, Cx.blk, S__law_shown, N__law_shown, startR, PSpec.S_args, PSpec.S_mu, PSpec.S_pre, PSpec.S_post, List.map_cons, List.map_nil, List.length_cons, List.length_nil, Nat.reduceAdd, Nat.reduceSub, List.replicate_succ, List.replicate_zero, List.cons_append, List.nil_append, List.append_nil] at hp ⊢
  walk_at "go"
  refine we_lc (gin_name (by decide)) (fun i ys m => m = [stm q0] ∧ ∃ xs : List Str, ys = xs.map D.str ∧ xs.length ≤ i) (wi_list ?_)
  walk_at "go"
  refine ⟨⟨rfl, [], rfl, Nat.le_refl _⟩, ?_, ?_⟩
  · rintro i dd ys m hd ⟨rfl, xs, rfl, hxl⟩ _
    obtain ⟨n, hn, rfl⟩ := map_got hd
    have hi : i < ns.length := (List.getElem?_eq_some_iff.mp hn).1
    walk_at "go"
    by_cases hz : n.nm = ""
    · rw [if_neg (by simp [hz])]
      exact ⟨rfl, xs, rfl, by omega⟩
    · rw [if_pos (by simp [hz])]
      walk_at "go"
      exact ⟨by omega, rfl, xs ++ [n.nm], by rw [List.map_append]; rfl, by simp; omega⟩
  rintro ys m ⟨rfl, xs, rfl, hxl⟩ _
  rw [List.length_map] at hxl
  walk_at "go"
  refine we_lc (gin_name (by decide)) (fun i ys m => ∃ (q : Int × Int) (sh : List (Str × Str)), m = [stm q] ∧ ys = sh.map (fun q => .tup [.str q.1, .str q.2]) ∧ ShOk sh) (wi_list ?_)
  walk_at "go"
  refine ⟨⟨q0, [], rfl, rfl, fun p h => by simp at h⟩, ?_, ?_⟩
  · rintro i dd ys m hd ⟨q, sh, rfl, rfl, hsh⟩ _
    obtain ⟨x, hx, rfl⟩ := map_got hd
    have hi : i < xs.length := (List.getElem?_eq_some_iff.mp hx).1
    walk_at "go"
    refine we_tk rfl ?_
    walk_at "go"
    refine ⟨3, q, rfl, ⟨by omega, by omega⟩, rfl, fun r q1 b1 b2 => ?_⟩
    walk_at "go"
    by_cases hr0 : 0 < r
    · rw [if_pos (decide_eq_true hr0)]
      walk_at "go"
      refine we_tk rfl ?_
      walk_at "go"
      refine ⟨2000, q1, rfl, ⟨by omega, by omega⟩, rfl, fun r2 q2 c1 c2 => ?_⟩
      walk_at "go"
      refine wc_str (by omega) ?_
      walk_at "go"
      refine ⟨by omega, q2, sh ++ [(x, _)], rfl, by rw [List.map_append]; rfl, fun p hp => ?_⟩
      rcases List.mem_append.mp hp with y | y
      · exact hsh p y
      · rw [List.mem_singleton.mp y]
        obtain ⟨k, hk⟩ : ∃ k : Nat, 1 + r2 = (k : Int) := ⟨(1 + r2).toNat, by omega⟩
        simp only
        rw [hk]
        exact digits k (by omega)
    · rw [if_neg (by simpa using hr0)]
      exact ⟨q1, sh, rfl, rfl, hsh⟩
  · rintro ys m ⟨q, sh, rfl, rfl, hsh⟩ _
    walk_at "go"
    exact ⟨sh, q, rfl, rfl, hsh⟩
end
end LP
end

section
set_option maxHeartbeats 2000000
/-! LF: a forest of nodes makes a book that is well made. -/
namespace LP
open PySem L2
theorem fo_el {K : Kd} {lv e a : Nat} {l : List Nd} (h : Fo K lv e a l) : ∀ (j : Nat) x, l[j]? = some x → x.el = (e : Int) ∨ ∃ m : Nat, x.el = (m : Int) ∧ a ≤ m ∧ m < a + j := by
  induction h with
  | nil => intro j x h; simp at h
  | @cons K lv e a n kids rest h1 hk ha hr ihk ihr =>
    intro j x hx
    cases j with
    | zero =>
      simp at hx
      subst hx
      exact .inl h1.el
    | succ j =>
      rw [List.getElem?_cons_succ] at hx
      by_cases hj : j < kids.length
      · rw [List.getElem?_append_left hj] at hx
        rcases ihk j x hx with z | ⟨m, z1, z2, z3⟩
        · exact .inr ⟨a, z, Nat.le_refl _, by omega⟩
        · exact .inr ⟨m, z1, by omega, by omega⟩
      · rw [List.getElem?_append_right (by omega)] at hx
        rcases ihr (j - kids.length) x hx with z | ⟨m, z1, z2, z3⟩
        · exact .inl z
        · exact .inr ⟨m, z1, by omega, by omega⟩
/-- the list l stands in ns from place a on -/
def Seg (ns l : List Nd) (a : Nat) : Prop := (∀ (j : Nat) x, l[j]? = some x → ns[a + j]? = some x) ∧ a + l.length ≤ ns.length
theorem Seg.left {ns l l2 : List Nd} {a : Nat} (h : Seg ns (l ++ l2) a) : Seg ns l a := ⟨fun j x hx => h.1 j x (by rw [List.getElem?_append_left (List.getElem?_eq_some_iff.mp hx).1]; exact hx), by have := h.2; rw [List.length_append] at this; omega⟩
theorem Seg.right {ns l l2 : List Nd} {a : Nat} (h : Seg ns (l ++ l2) a) : Seg ns l2 (a + l.length) := ⟨fun j x hx => by
  rw [Nat.add_assoc]
  exact h.1 _ x (by rw [List.getElem?_append_right (by omega), Nat.add_sub_cancel_left]; exact hx), by have := h.2; rw [List.length_append] at this; omega⟩
theorem Seg.tail {ns l : List Nd} {n : Nd} {a : Nat} (h : Seg ns (n :: l) a) : ns[a]? = some n ∧ Seg ns l (a + 1) := ⟨h.1 0 n rfl, fun j x hx => by
  rw [Nat.add_assoc, Nat.add_comm 1 j]
  exact h.1 (j + 1) x hx, by have := h.2; rw [List.length_cons] at this; omega⟩
theorem Seg.get {ns l : List Nd} {a j : Nat} {x : Nd} (h : Seg ns l a) (h1 : a ≤ j) (h2 : j < a + l.length) (hx : ns[j]? = some x) : l[j - a]? = some x := by
  have h3 := getI (xs := l) (i := j - a) (by omega)
  have h4 := h.1 _ _ h3
  rw [show a + (j - a) = j by omega, hx] at h4
  rw [h3, h4]
/-- what stands behind a forest hangs before it or behind it -/
def Out (ns : List Nd) (a b : Nat) : Prop := ∀ (j : Nat) x, b ≤ j → ns[j]? = some x → x.el < (a : Int) ∨ (b : Int) ≤ x.el
structure At (ns : List Nd) (lvf : Nat → Nat) (i : Nat) (n : Nd) (K : Kd) (e lv : Nat) (kids : List Nd) : Prop where
  get : ns[i]? = some n
  ok : NdOk K lv e n kids
  fo : Fo n.kd (lv + 1) i (i + 1) kids
  seg : Seg ns kids (i + 1)
  out : Out ns i (i + 1 + kids.length)
  lt : e < i
  eld : ∃ m, ns[e]? = some m ∧ m.kd = K
  lvl : lvf i = lv
  lve : lvf e + 1 = lv
  nxt : n.kd = .aside → ∃ t, ns[i + 1 + kids.length]? = some t ∧ t.kd = .text ∧ t.el = (e : Int)
theorem fo_at {ns : List Nd} {lvf : Nat → Nat} (hlv : ∀ (i : Nat) x (e : Nat), ns[i]? = some x → x.el = (e : Int) → e < i → lvf i = lvf e + 1) {K : Kd} {lv e a : Nat} {l : List Nd} (h : Fo K lv e a l) :
    Seg ns l a → e < a → Out ns a (a + l.length) → (∃ m, ns[e]? = some m ∧ m.kd = K) → lvf e + 1 = lv → ∀ (j : Nat) n, l[j]? = some n → ∃ K' e' lv' kids, At ns lvf (a + j) n K' e' lv' kids := by
  induction h with
  | nil => intro _ _ _ _ _ j n h; simp at h
  | @cons K lv e a n kids rest h1 hk ha hr ihk ihr =>
    intro hseg hea hout hm hlve j x hx
    obtain ⟨hn, hs2⟩ := hseg.tail
    have hsk := hs2.left
    have hsr := hs2.right
    have hln : (n :: (kids ++ rest)).length = 1 + kids.length + rest.length := by simp; omega
    have hlva : lvf a = lv := by rw [hlv a n e hn h1.el hea]; exact hlve
    have hob : Out ns a (a + 1 + kids.length) := fun j x hj hx => by
      by_cases h2 : j < a + 1 + kids.length + rest.length
      · have h3 := hsr.get hj h2 hx
        rcases fo_el hr _ x h3 with z | ⟨m, z1, z2, z3⟩
        · left; omega
        · right; omega
      · rcases hout j x (by omega) hx with z | z
        · exact .inl z
        · right; omega
    cases j with
    | zero =>
      simp at hx
      subst hx
      refine ⟨K, e, lv, kids, hn, h1, hk, hsk, hob, hea, hm, hlva, hlve, fun z => ?_⟩
      obtain ⟨t, r, rfl, ht⟩ := ha z
      refine ⟨t, hsr.tail.1, ht, ?_⟩
      rcases fo_el hr 0 t rfl with y | ⟨m, _, y2, y3⟩
      · exact y
      · omega
    | succ j =>
      rw [List.getElem?_cons_succ] at hx
      by_cases hj : j < kids.length
      · rw [List.getElem?_append_left hj] at hx
        have := ihk hsk (Nat.lt_succ_self _) (fun j x hj hx => by
          rcases hob j x hj hx with z | z
          · left; omega
          · exact .inr z) ⟨n, hn, rfl⟩ (by rw [hlva]) j x hx
        rw [show a + (j + 1) = a + 1 + j by omega]
        exact this
      · rw [List.getElem?_append_right (by omega)] at hx
        have := ihr hsr (by omega) (fun j x hj hx => by
          rcases hout j x (by omega) hx with z | z
          · left; omega
          · right; omega) hm hlve (j - kids.length) x hx
        rw [show a + 1 + kids.length + (j - kids.length) = a + (j + 1) by omega] at this
        exact this
/-- which of [a, b) hang in e -/
def fl (ns : List Nd) (e a b : Nat) : List Nat := (List.range' a (b - a)).filter fun j => decide ((ns.map Nd.el)[j]? = some (e : Int))
theorem fl_app {ns : List Nd} {e a b c : Nat} (h1 : a ≤ b) (h2 : b ≤ c) : fl ns e a c = fl ns e a b ++ fl ns e b c := by
  unfold fl
  rw [← List.filter_append]
  congr 1
  have h : c - a = (b - a) + (c - b) := by omega
  rw [h, ← List.range'_append_1]
  congr 2
  omega
theorem fl_nil {ns : List Nd} {e a b : Nat} (h : ∀ (j : Nat) x, a ≤ j → j < b → ns[j]? = some x → x.el ≠ (e : Int)) : fl ns e a b = [] := by
  unfold fl
  rw [List.filter_eq_nil_iff]
  intro j hj
  rw [List.mem_range'_1] at hj
  intro z
  have z := of_decide_eq_true z
  rw [List.getElem?_map] at z
  cases q : ns[j]? with
  | none => rw [q] at z; cases z
  | some x => rw [q] at z; exact h j x hj.1 (by omega) q (Option.some.inj z)
theorem fl_one {ns : List Nd} {e a : Nat} {x : Nd} (h : ns[a]? = some x) (hx : x.el = (e : Int)) : fl ns e a (a + 1) = [a] := by
  unfold fl
  rw [Nat.add_sub_cancel_left]
  show List.filter _ [a] = _
  rw [List.filter_cons, if_pos]
  · rfl
  · apply decide_eq_true
    rw [List.getElem?_map, h]
    exact congrArg some hx
theorem hold_fl {ns : List Nd} {e b : Nat} (h1 : e + 1 ≤ b) (h2 : b ≤ ns.length) (ho : ∀ (j : Nat) x, b ≤ j → ns[j]? = some x → x.el ≠ (e : Int)) : hold ns e = fl ns e (e + 1) b := by
  have e1 : fl ns e (e + 1) ns.length = fl ns e (e + 1) b ++ fl ns e b ns.length := fl_app h1 h2
  rw [fl_nil (a := b) (fun j x h _ hx => ho j x h hx), List.append_nil] at e1
  rw [← e1]
  unfold hold fl
  have e2 : List.range ns.length = List.range' 0 (e + 1) ++ List.range' (e + 1) (ns.length - (e + 1)) := by
    rw [List.range_eq_range']
    have : ns.length = (e + 1) + (ns.length - (e + 1)) := by omega
    conv => lhs; rw [this, ← List.range'_append_1]
    rw [Nat.zero_add]
  rw [e2, List.filter_append, List.filter_eq_nil_iff.mpr, List.nil_append]
  · apply List.filter_congr
    intro j hj
    rw [List.mem_range'_1] at hj
    have : e < j := by omega
    simp [this]
  · intro j hj
    rw [List.mem_range'_1] at hj
    have : ¬ e < j := by omega
    simp [this]
/-- the chain of a forest -/
theorem fo_chain {ns : List Nd} {en : Nat → Nat} {K : Kd} {lv e a : Nat} {l : List Nd} (h : Fo K lv e a l) : Seg ns l a → e < a → (∀ j, a ≤ j → j < a + l.length → ∀ (n : Nd) (kids : List Nd) (lv' : Nat), ns[j]? = some n → Fo n.kd lv' j (j + 1) kids → Seg ns kids (j + 1) → Out ns j (j + 1 + kids.length) → en j = j + 1 + kids.length) → Out ns a (a + l.length) →
    Chain en a (fl ns e a (a + l.length)) (a + l.length) := by
  induction h with
  | @nil K lv e a =>
    intro _ _ _ _
    rw [List.length_nil, Nat.add_zero]
    unfold fl
    rw [Nat.sub_self]
    exact rfl
  | @cons K lv e a n kids rest h1 hk ha hr ihk ihr =>
    intro hseg hea hen hout
    obtain ⟨hn, hs2⟩ := hseg.tail
    have hsk := hs2.left
    have hsr := hs2.right
    have hln : (n :: (kids ++ rest)).length = 1 + kids.length + rest.length := by simp; omega
    have hob : Out ns a (a + 1 + kids.length) := fun j x hj hx => by
      by_cases h2 : j < a + 1 + kids.length + rest.length
      · have h3 := hsr.get hj h2 hx
        rcases fo_el hr _ x h3 with z | ⟨m, z1, z2, z3⟩
        · left; omega
        · right; omega
      · rcases hout j x (by omega) hx with z | z
        · exact .inl z
        · right; omega
    have hea2 : en a = a + 1 + kids.length := hen a (Nat.le_refl _) (by omega) n kids _ hn hk hsk hob
    have hrest := ihr hsr (by omega) (fun j h1 h2 => hen j (by omega) (by omega)) (fun j x hj hx => by
      rcases hout j x (by omega) hx with z | z
      · left; omega
      · right; omega)
    have e1 : a + (n :: (kids ++ rest)).length = a + 1 + kids.length + rest.length := by omega
    rw [e1, fl_app (b := a + 1) (by omega) (by omega), fl_one hn h1.el, fl_app (a := a + 1) (b := a + 1 + kids.length) (by omega) (by omega), fl_nil (a := a + 1) (b := a + 1 + kids.length) (fun j x h2 h3 hx => ?_)]
    · exact ⟨rfl, by rw [hea2]; exact hrest⟩
    · have h4 := hsk.get h2 h3 hx
      rcases fo_el hk _ x h4 with z | ⟨m, z1, z2, z3⟩
      · omega
      · omega
/-! ### the whole book -/
def lvF (ns : List Nd) : Nat → Nat → Nat
  | 0, _ => 0
  | k + 1, i => if i = 0 then 0 else match ns[i]? with
    | some x => lvF ns k x.el.toNat + 1
    | none => 0
theorem lvF_fuel {ns : List Nd} (W : ∀ (i : Nat) x, 0 < i → ns[i]? = some x → ∃ e : Nat, x.el = (e : Int) ∧ e < i) : ∀ i k, i ≤ k → lvF ns k i = lvF ns i i := by
  intro i
  induction i using Nat.strongRecOn with
  | ind i ih =>
    intro k hk
    rcases Nat.eq_zero_or_pos i with z | z
    · subst z
      cases k with
      | zero => rfl
      | succ k => simp [lvF]
    · obtain ⟨i', rfl⟩ : ∃ i', i = i' + 1 := ⟨i - 1, by omega⟩
      obtain ⟨k', rfl⟩ : ∃ k', k = k' + 1 := ⟨k - 1, by omega⟩
      simp only [lvF]
      rw [if_neg (by omega)]
      cases q : ns[i' + 1]? with
      | none => rfl
      | some x =>
        obtain ⟨e, h1, h2⟩ := W _ x z q
        simp only [h1, Int.toNat_natCast]
        rw [ih e h2 k' (by omega), ih e h2 i' (by omega)]
        try rw [if_neg (by omega)]
theorem lvF_step {ns : List Nd} (W : ∀ (i : Nat) x, 0 < i → ns[i]? = some x → ∃ e : Nat, x.el = (e : Int) ∧ e < i) (i : Nat) (x : Nd) (e : Nat) (hx : ns[i]? = some x) (he : x.el = (e : Int)) (hlt : e < i) : lvF ns i i = lvF ns e e + 1 := by
  obtain ⟨i', rfl⟩ : ∃ i', i = i' + 1 := ⟨i - 1, by omega⟩
  simp only [lvF]
  rw [if_neg (by omega), hx]
  simp only [he, Int.toNat_natCast]
  rw [lvF_fuel W e i' (by omega)]
def Kids (ns : List Nd) (i : Nat) (kids : List Nd) : Prop := ∃ (n : Nd) (lv' : Nat), ns[i]? = some n ∧ Fo n.kd lv' i (i + 1) kids ∧ Seg ns kids (i + 1) ∧ Out ns i (i + 1 + kids.length)
theorem Kids.le {ns : List Nd} {i : Nat} {k1 k2 : List Nd} (h1 : Kids ns i k1) (h2 : Kids ns i k2) : k2.length ≤ k1.length := by
  obtain ⟨n, lv, a1, a2, a3, a4⟩ := h1
  obtain ⟨n', lv', b1, b2, b3, b4⟩ := h2
  rcases Nat.lt_or_ge k1.length k2.length with z | z
  · exfalso
    have hx := getI z
    have hy := b3.1 _ _ hx
    rcases a4 _ _ (Nat.le_refl _) hy with y | y
    · rcases fo_el b2 _ _ hx with w | ⟨m, w1, w2, w3⟩ <;> omega
    · rcases fo_el b2 _ _ hx with w | ⟨m, w1, w2, w3⟩ <;> omega
  · exact z
open Classical in
noncomputable def enF (ns : List Nd) (i : Nat) : Nat := if h : ∃ kids, Kids ns i kids then i + 1 + (Classical.choose h).length else 0
theorem enF_of {ns : List Nd} {i : Nat} {kids : List Nd} (h : Kids ns i kids) : enF ns i = i + 1 + kids.length := by
  have hx : ∃ kids, Kids ns i kids := ⟨kids, h⟩
  unfold enF
  rw [dif_pos hx]
  have h2 := Classical.choose_spec hx
  have := h.le h2
  have := h2.le h
  omega
theorem fo_flat {K : Kd} {lv e a : Nat} {l : List Nd} (h : Fo K lv e a l) (hK : K.wu = true) : ∀ x ∈ l, x.el = (e : Int) := by
  induction h with
  | nil => intro x h; cases h
  | @cons K lv e a n kids rest h1 hk ha hr ihk ihr =>
    have htx : K = .text ∨ K = .head := by
      have := h1.kn
      cases K <;> first | exact .inl rfl | exact .inr rfl | (exact absurd rfl this) | (exact absurd hK (by decide))
    have hn := h1.nt.mpr htx
    have hk0 : kids = [] := by
      rw [hn] at hk
      cases hk with
      | nil => rfl
      | cons g1 => exact absurd rfl g1.kn
    subst hk0
    intro x hx
    rcases List.mem_cons.mp hx with z | z
    · rw [z]; exact h1.el
    · exact ihr hK x z
theorem fl_all {ns : List Nd} {e a b : Nat} (hb : b ≤ ns.length) (h : ∀ (j : Nat) x, a ≤ j → j < b → ns[j]? = some x → x.el = (e : Int)) : (fl ns e a b).length = b - a := by
  unfold fl
  rw [List.filter_eq_self.mpr, List.length_range']
  intro j hj
  rw [List.mem_range'_1] at hj
  apply decide_eq_true
  have := getI (xs := ns) (i := j) (by omega)
  rw [List.getElem?_map, this]
  exact congrArg some (h j _ hj.1 (by omega) this)
theorem Kids.hold {ns : List Nd} {i : Nat} {kids : List Nd} (h : Kids ns i kids) : hold ns i = fl ns i (i + 1) (i + 1 + kids.length) := by
  obtain ⟨n, lv, a1, a2, a3, a4⟩ := h
  refine hold_fl (by omega) a3.2 fun j x hj hx => ?_
  rcases a4 j x hj hx with z | z <;> omega
theorem book_ok {l : List Nd} {n0 : Nd} (h0 : n0.kd = .body ∧ n0.el = -1) (h : Fo .body 1 0 1 l) (hl : l.length ≤ 900) : ∃ lv en, Bk (n0 :: l) lv ∧ Ord (n0 :: l) en := by
  have hseg : Seg (n0 :: l) l 1 := ⟨fun j x hx => by rw [Nat.add_comm]; exact hx, by simp; omega⟩
  have hlen : (n0 :: l).length = 1 + l.length := by simp; omega
  have get1 : ∀ (i : Nat) x, 0 < i → (n0 :: l)[i]? = some x → l[i - 1]? = some x := fun i x hi hx => by
    obtain ⟨i', rfl⟩ : ∃ i', i = i' + 1 := ⟨i - 1, by omega⟩
    exact hx
  have W : ∀ (i : Nat) x, 0 < i → (n0 :: l)[i]? = some x → ∃ e : Nat, x.el = (e : Int) ∧ e < i := fun i x hi hx => by
    rcases fo_el h (i - 1) x (get1 i x hi hx) with z | ⟨m, z1, z2, z3⟩
    · exact ⟨0, z, hi⟩
    · exact ⟨m, z1, by omega⟩
  have hout : Out (n0 :: l) 1 (1 + l.length) := fun j x hj hx => by
    have := (List.getElem?_eq_some_iff.mp hx).1
    omega
  have hat : ∀ (i : Nat) n, 0 < i → (n0 :: l)[i]? = some n → ∃ K' e' lv' kids, At (n0 :: l) (fun i => lvF (n0 :: l) i i) i n K' e' lv' kids := fun i n hi hn => by
    have := fo_at (lvf := fun i => lvF (n0 :: l) i i) (fun i x e h1 h2 h3 => lvF_step W i x e h1 h2 h3) h hseg (by omega) hout ⟨n0, rfl, h0.1⟩ rfl (i - 1) n (get1 i n hi hn)
    rw [show 1 + (i - 1) = i by omega] at this
    exact this
  have root : Kids (n0 :: l) 0 l := ⟨n0, 1, rfl, by rw [h0.1]; exact h, hseg, fun j x hj hx => by
    have := (List.getElem?_eq_some_iff.mp hx).1
    omega⟩
  have kids : ∀ i, i < (n0 :: l).length → ∃ kids, Kids (n0 :: l) i kids := fun i hi => by
    rcases Nat.eq_zero_or_pos i with z | z
    · subst z; exact ⟨l, root⟩
    · obtain ⟨K', e', lv', kids, A⟩ := hat i _ z (getI hi)
      exact ⟨kids, _, _, A.get, A.fo, A.seg, A.out⟩
  have chain : ∀ (i : Nat) (ks : List Nd), Kids (n0 :: l) i ks → Chain (enF (n0 :: l)) (i + 1) (hold (n0 :: l) i) (enF (n0 :: l) i) := fun i ks hk => by
    rw [hk.hold, enF_of hk]
    obtain ⟨n, lv, a1, a2, a3, a4⟩ := hk
    exact fo_chain a2 a3 (Nat.lt_succ_self _) (fun j h1 h2 n' kids' lv' b1 b2 b3 b4 => enF_of ⟨n', lv', b1, b2, b3, b4⟩) (fun j x hj hx => by
      rcases a4 j x hj hx with z | z
      · left; omega
      · exact .inr z)
  refine ⟨fun i => lvF (n0 :: l) i i, enF (n0 :: l), ⟨by omega, by omega, fun n hn => ?_, fun i n hi hn => ?_, fun i n hn hc => ?_, fun i n hn hk => ?_, fun i n hn hk => ?_, fun i n hn hw => ?_, fun i n hn hk => ?_⟩, ⟨fun i hi => ?_, fun i hi => ?_, ?_⟩⟩
  · cases hn; exact h0
  · obtain ⟨K', e', lv', ks, A⟩ := hat i n hi hn
    obtain ⟨m, hm, hmk⟩ := A.eld
    have hl1 := A.lvl
    have hl2 := A.lve
    try simp only at hl1 hl2
    exact ⟨e', m, A.ok.el, A.lt, hm, by show lvF (n0 :: l) i i = lvF (n0 :: l) e' e' + 1; omega, A.ok.nb, by rw [hmk]; exact A.ok.kn, by rw [hmk]; exact A.ok.kp, by rw [hmk]; exact A.ok.nt, by rw [hmk]; exact A.ok.as⟩
  · rcases Nat.eq_zero_or_pos i with z | z
    · subst z; simp [lvF]
    · obtain ⟨K', e', lv', ks, A⟩ := hat i n z hn
      have := A.ok.lev hc
      have hl1 := A.lvl
      try simp only at hl1
      show lvF (n0 :: l) i i ≤ 3
      omega
  · rcases Nat.eq_zero_or_pos i with z | z
    · subst z
      cases hn
      rw [h0.1] at hk
      rcases hk with y | y <;> cases y
    · obtain ⟨K', e', lv', ks, A⟩ := hat i n z hn
      have hne := A.ok.full hk
      have hK : Kids (n0 :: l) i ks := ⟨n, _, A.get, A.fo, A.seg, A.out⟩
      cases ks with
      | nil => exact absurd rfl hne
      | cons k r =>
        intro e
        have h1 := A.seg.tail.1
        have h2 : k.el = (i : Int) := by
          rcases fo_el A.fo 0 k rfl with y | ⟨m, _, y2, y3⟩
          · exact y
          · omega
        have h3 : i + 1 ∈ hold (n0 :: l) i := mem_hold2.mpr ⟨by omega, k, h1, h2⟩
        rw [e] at h3; cases h3
  · rcases Nat.eq_zero_or_pos i with z | z
    · subst z
      cases hn
      rw [h0.1] at hk; cases hk
    · obtain ⟨K', e', lv', ks, A⟩ := hat i n z hn
      exact A.ok.pic hk
  · rcases Nat.eq_zero_or_pos i with z | z
    · subst z
      cases hn
      rw [h0.1] at hw; cases hw
    · obtain ⟨K', e', lv', ks, A⟩ := hat i n z hn
      obtain ⟨pcs, h1, h2⟩ := A.ok.pie hw
      have hK : Kids (n0 :: l) i ks := ⟨n, _, A.get, A.fo, A.seg, A.out⟩
      refine ⟨pcs, h1, ?_⟩
      rw [hK.hold, fl_all A.seg.2 (fun j x q1 q2 hx => fo_flat A.fo hw x (List.mem_of_getElem? (A.seg.get q1 q2 hx))), Nat.add_sub_cancel_left]
      exact h2
  · rcases Nat.eq_zero_or_pos i with z | z
    · subst z
      cases hn
      rw [h0.1] at hk; cases hk
    · obtain ⟨K', e', lv', ks, A⟩ := hat i n z hn
      obtain ⟨t, h1, h2, h3⟩ := A.nxt hk
      refine ⟨_, t, h1, h2, by rw [h3, A.ok.el], by omega, fun k m' q1 q2 hm => ?_⟩
      have hlt := A.lt
      rcases fo_el A.fo _ m' (A.seg.get (by omega) q2 hm) with y | ⟨w, y1, y2, y3⟩
      · rw [y, A.ok.el]; omega
      · rw [y1, A.ok.el]; omega
  · obtain ⟨ks, hK⟩ := kids i hi
    rw [enF_of hK]
    obtain ⟨n, lv, a1, a2, a3, a4⟩ := hK
    exact ⟨by omega, a3.2⟩
  · obtain ⟨ks, hK⟩ := kids i hi
    exact chain i ks hK
  · rw [enF_of root]; omega
end LP
end

section
set_option maxHeartbeats 4000000
/-! L4: the law's world. -/
namespace LP
open PySem PySem.Spec PyProof.Rows L2
/-- what the law makes -/
structure Made where
  ns : List Nd
  lks : List (List Int)
  uus : List (List Un)
  sp : List (Int × Int)
  lv : Nat → Nat
  en : Nat → Nat
def MadeOk (x : Made) : Prop := Bk x.ns x.lv ∧ Ord x.ns x.en ∧ LkR x.lks x.ns.length ∧ UUOk x.ns x.uus ∧ SpOk x.ns x.lks x.sp
@[reducible] def Made.enc (x : Made) : D := .lst [encB x.ns, encLk x.lks, encUU x.uus, encP x.sp]
section
variable {P : Program} {w : World} {K : PySem.W.Frag} {mg : Str → Option Value} {base : Heap}
theorem we_st {ρ : Rho} {mu : List Ct} {Φ : SV → List Ct → Prop} {t1 t2 : TE} {E : XK} (h : WE K t1 ρ mu fun y1 m1 => WE K t2 ρ m1 fun y2 m2 => ∃ (ns : List Int) (k : Nat), y1 = .dat (.scr ns) ∧ y2 = .dat (.int (k : Int)) ∧ k ≤ 10 ∧ ∀ q, Φ (.ob m2.length) (m2 ++ [stm q])) :
    WE K (tCall (spG K S__law_stream) [] E (tCons t1 (tCons t2 tNil))) ρ mu Φ := by
  refine we_callM (wa_cons (we_mono h fun y1 m1 h => wa_cons (we_mono h ?_)))
  rintro y2 m2 ⟨ns, k, rfl, rfl, hk, kk⟩
  refine wa_nil ⟨(ns, k), [], rfl, List.nodup_nil, rfl, fun i hi => ?_, hk, ?_⟩
  · simp [S__law_stream] at hi
  · rintro s mc ⟨rfl, q, rfl⟩
    have e : putAll m2 [] [stm q] ++ [stm q].drop ([] : List Nat).length = m2 ++ [stm q] := by simp [putAll]
    rw [e]
    exact kk q
theorem we_tkE {ρ : Rho} {mu : List Ct} {Φ : SV → List Ct → Prop} {t0 te : TE} {E : XK} (h : WE K t0 ρ mu fun y0 m0 => WE K te ρ m0 fun y mu1 => ∃ (k : Nat) (most : Int) (q : Int × Int), y0 = .ob k ∧ y = .dat (.int most) ∧ (1 ≤ most ∧ most ≤ 1000000) ∧ mu1[k]? = some (stm q) ∧
    ∀ r q', 0 ≤ r → r < most → Φ (.dat (.int r)) (mu1.set k (stm q'))) : WE K (tCall (spG K S__law_take) [] E (tCons t0 (tCons te tNil))) ρ mu Φ := by
  refine we_callM (wa_cons (we_mono h fun y0 m0 h => wa_cons (we_mono h ?_)))
  rintro y mu1 ⟨k, most, q, rfl, rfl, hm, hq, kk⟩
  refine wa_nil ⟨(q, most), [k], rfl, by simp, ?_, fun i hi => ?_, hm, ?_⟩
  · show [mu1[k]?] = [some (stm q)]
    rw [hq]
  · simp [S__law_take] at hi; simp [hi]
  · rintro s mc ⟨r, q', rfl, h1, h2, rfl⟩
    have e : putAll mu1 [k] [stm q'] ++ [stm q'].drop ([k] : List Nat).length = mu1.set k (stm q') := by simp [putAll]
    rw [e]
    exact kk r q' h1 h2
def S__law_made : PSpec (List Int) := ⟨fun x => [.scr x], fun _ => True, fun _ d => ∃ x : Made, d = x.enc ∧ MadeOk x⟩
theorem ok__law_made (T : Top K mg) : Has P w K mg base 11 "_law_made" ["_law_script"] (spG K S__law_made.S) := by
  have h__law_stream := ok__law_stream (P := P) (w := w) (K := K) (base := base) T
  have h__law_take := ok__law_take (P := P) (w := w) (K := K) (base := base) T
  have h__law_book := ok__law_book (P := P) (w := w) (K := K) (base := base) T
  have h__law_wide := ok__law_wide (P := P) (w := w) (K := K) (base := base) T
  have h__law_looks := ok__law_looks (P := P) (w := w) (K := K) (base := base) T
  have h_all_units := ok_all_units (P := P) (w := w) (K := K) (base := base) T
  have h__law_shown := ok__law_shown (P := P) (w := w) (K := K) (base := base) T
  have h__law_faces := ok__law_faces (P := P) (w := w) (K := K) (base := base) T
  have h_all_spans := ok_all_spans (P := P) (w := w) (K := K) (base := base) T
  have h_all_bounds := ok_all_bounds (P := P) (w := w) (K := K) (base := base) T
  refine has_ok T.d__law_made sc__law_made (fun _ => rfl) (fun _ _ _ _ _ _ us hl => match us, hl with | [_], _ => rfl) (fun f cdv A outer s H E hr => ⟨_, (pss_cons (ps_set (i := 1) sc__law_made.nd rfl (.inl rfl) (pe_has h__law_stream hr (by omega) (by rfl) (pa_cons (pv 0) (pa_cons pe_int pa_nil))))
      (pss_cons (ps_set (i := 2) sc__law_made.nd rfl (.inl rfl) (pe_cmpR op_eq (pe_has h__law_take hr (by omega) (by rfl) (pa_cons (pe_has h__law_stream hr (by omega) (by rfl) (pa_cons (pv 0) (pa_cons pe_int pa_nil))) (pa_cons pe_int pa_nil))) pe_int (nomark _)))
      (pss_cons (ps_set (i := 3) sc__law_made.nd rfl (.inl rfl) (pe_has h__law_book hr (by omega) (by rfl) (pa_cons (pv 1) (pa_cons (pe_ix (ix_listK (K := K) rfl) (pe_lst (pa_cons (pe_op op_add pe_int (pe_has h__law_take hr (by omega) (by rfl) (pa_cons (pv 1) (pa_cons pe_int pa_nil)))) (pa_cons pe_int pa_nil))) (pe_callTy call_int1 (by rfl) T.b_int bt_int (pa_cons (pv 2) pa_nil)) (fun _ _ => rfl)) (pa_cons (pe_ix (ix_listK (K := K) rfl) (pe_lst (pa_cons pe_int (pa_cons pe_int pa_nil))) (pe_callTy call_int1 (by rfl) T.b_int bt_int (pa_cons (pv 2) pa_nil)) (fun _ _ => rfl)) pa_nil)))))
      (pss_cons (ps_if (pt_val (pv 2)) (pss_one (ps_expr (pe_has h__law_wide hr (by omega) (by rfl) (pa_cons (pv 3) (pa_cons (pv 1) pa_nil))))) pss_nil)
      (pss_cons (ps_set (i := 1) sc__law_made.nd rfl (.inl rfl) (pe_has h__law_stream hr (by omega) (by rfl) (pa_cons (pv 0) (pa_cons pe_int pa_nil))))
      (pss_cons (ps_set (i := 4) sc__law_made.nd rfl (.inl rfl) (pe_has h__law_looks hr (by omega) (by rfl) (pa_cons (pv 3) (pa_cons (pv 1) pa_nil))))
      (pss_cons (ps_set (i := 5) sc__law_made.nd rfl (.inl rfl) (pe_hasD h_all_units hr (by omega) (by rfl) (pa_cons (pv 3) (pa_cons (pv 4) (pa_cons (pe_has h__law_faces hr (by omega) (by rfl) (pa_cons (pv 1) pa_nil)) (pa_cons (pe_has h__law_shown hr (by omega) (by rfl) (pa_cons (pv 3) (pa_cons (pv 1) pa_nil))) pa_nil))))))
      (pss_cons (ps_set (i := 6) sc__law_made.nd rfl (.inl rfl) (pe_has h_all_spans hr (by omega) (by rfl) (pa_cons (pv 3) (pa_cons (pv 4) (pa_cons (pe_has h_all_bounds hr (by omega) (by rfl) (pa_cons (pv 3) (pa_cons (pv 4) (pa_cons (pv 5) pa_nil)))) (pa_cons (pe_op op_add pe_int (pe_has h__law_take hr (by omega) (by rfl) (pa_cons (pv 1) (pa_cons pe_int pa_nil)))) pa_nil))))))
      (pss_one (ps_ret (pe_lst (pa_cons (pv 3) (pa_cons (pv 4) (pa_cons (pv 5) (pa_cons (pv 6) pa_nil))))))))))))))), ?_⟩)
  rintro script hp
  simp only [cxOf, Cx.nox, Cx.wish, Cx.blk, S__law_made, N__law_made, startR, PSpec.S_args, PSpec.S_mu, PSpec.S_pre, PSpec.S_post, List.map_cons, List.map_nil, List.length_cons, List.length_nil, Nat.reduceAdd, Nat.reduceSub, List.replicate_succ, List.replicate_zero, List.cons_append, List.nil_append, List.append_nil] at hp ⊢
  walk_at "go"
  refine we_st ?_
  walk_at "go"
  refine ⟨script, 0, rfl, rfl, by omega, fun q0 => ?_⟩
  walk_at "go"
  refine we_tkE (we_st ?_)
  walk_at "go"
  refine ⟨script, 0, rfl, rfl, by omega, fun q1 => ?_⟩
  walk_at "go"
  refine ⟨1, 8, q1, rfl, rfl, ⟨by omega, by omega⟩, rfl, fun r2 q2 _ _ => ?_⟩
  walk_at "go"
  obtain ⟨wd, hwd⟩ : ∃ wd : Bool, decide (r2 = 6) = wd := ⟨_, rfl⟩
  rw [hwd]
  refine we_callM ?_
  walk_at "go"
  refine we_lst2 ?_
  walk_at "go"
  refine we_tk rfl ?_
  walk_at "go"
  refine ⟨4, q0, rfl, ⟨by omega, by omega⟩, rfl, fun r3 q3 b1 b2 => ?_⟩
  walk_at "go"
  obtain ⟨many, hmat, hm1, hm2, hm3⟩ : ∃ many : Nat, atI [D.int (1 + r3), .int 1] (if wd = true then 1 else 0) = some (.int (many : Int)) ∧ 1 ≤ many ∧ many ≤ 4 ∧ (wd = true → many = 1) := by
    cases wd with
    | true => exact ⟨1, rfl, by omega, by omega, fun _ => rfl⟩
    | false => exact ⟨(1 + r3).toNat, by rw [show (((1 + r3).toNat : Nat) : Int) = 1 + r3 by omega]; rfl, by omega, by omega, fun z => by cases z⟩
  refine wr_ixL isl_d hmat ?_
  walk_at "go"
  refine we_lst2 ?_
  walk_at "go"
  obtain ⟨room, hrat⟩ : ∃ room : Int, atI [D.int 12, .int 4] (if wd = true then 1 else 0) = some (.int room) := by
    cases wd with
    | true => exact ⟨4, rfl⟩
    | false => exact ⟨12, rfl⟩
  refine wr_ixL isl_d hrat ?_
  walk_at "go"
  refine ⟨⟨q3, many, room⟩, [0], rfl, by simp, rfl, fun i hi => ?_, ⟨hm2, hm1⟩, ?_⟩
  · simp [S__law_book] at hi; simp [hi]
  rintro s mc ⟨rfl, l0, q4, rfl, hF0, hne0, hl0⟩
  try simp only at hl0
  have hl1 : l0.length ≤ 640 := by omega
  have hl2 : wd = true → l0.length ≤ 160 := fun z => by rw [hm3 z] at hl0; omega
  have ep : putAll [stm q3, stm q2] [0] [stm q4, .lst ((ROOT :: l0).map Nd.enc)] ++ [stm q4, .lst ((ROOT :: l0).map Nd.enc)].drop ([0] : List Nat).length = [stm q4, stm q2, .lst ((ROOT :: l0).map Nd.enc)] := by simp [putAll]
  have eb : backV ([0] : List Nat).length 2 [0] (.ob 1) = .ob 2 := rfl
  rw [ep, eb]
  walk_at "gi"
  refine ws_mid (fun ρ m => ∃ (l : List Nd) (q : Int × Int), ρ = [some (.dat (.scr script)), some (.ob 0), some (.dat (.bl wd)), some (.ob 2), none, none, none] ∧ m = [stm q, stm q2, .lst ((ROOT :: l).map Nd.enc)] ∧ Fo .body 1 0 1 l ∧ l.length ≤ 640) ?_ ?_
  · walk_at "go"
    refine ifb (fun hw => ?_) (fun hw => ?_)
    · walk_at "go"
      refine we_callM ?_
      walk_at "go"
      refine ⟨⟨l0, q4⟩, [2, 0], rfl, by decide, rfl, fun i hi => ?_, by have := hl2 hw; show l0.length ≤ 200; omega, ?_⟩
      · simp [S__law_wide] at hi; rcases hi with rfl | rfl <;> decide
      rintro s mc ⟨rfl, l2, q5, rfl, hF2, hl3⟩
      try simp only at hF2
      have := hl2 hw
      exact ⟨l0 ++ l2, q5, rfl, rfl, hF0.append hF2, by rw [List.length_append]; omega⟩
    · walk_at "go"
      exact ⟨l0, q4, rfl, rfl, hF0, hl1⟩
  rintro ρ m ⟨l, q, rfl, rfl, hF, hl⟩
  obtain ⟨lv, en, hb, hO⟩ := book_ok (n0 := ROOT) ⟨rfl, rfl⟩ hF (by omega)
  have hnl := hb.len
  generalize hns : ROOT :: l = ns at hb hO hnl
  refine ws_freeze (mu1 := [stm q, stm q2]) rfl (Nat.zero_le _) ?_
  simp only [thaw, List.map_cons, List.map_nil, List.length_cons, List.length_nil, Nat.zero_add, Nat.reduceAdd, if_neg (show ¬ (0 : Nat) = 2 by omega), if_true]
  walk_at "go"
  refine we_st ?_
  walk_at "go"
  refine ⟨script, 1, rfl, rfl, by omega, fun q6 => ?_⟩
  walk_at "go"
  refine we_callM ?_
  walk_at "go"
  refine ⟨(ns, q6), [2], by rw [← hns]; rfl, by simp, rfl, fun i hi => ?_, hnl, ?_⟩
  · simp [S__law_looks] at hi; simp [hi]
  rintro s mc ⟨lks, q7, rfl, rfl, hL⟩
  try simp only at hL
  have e7 : putAll [stm q, stm q2, stm q6] [2] [stm q7] ++ [stm q7].drop ([2] : List Nat).length = [stm q, stm q2, stm q7] := by simp [putAll]
  rw [e7]
  simp only [backV]
  walk_at "go"
  refine we_callD (d0 := .bl false) (fun _ => Rep.bl false) ?_
  walk_at "go"
  refine we_callM ?_
  walk_at "go"
  refine ⟨q7, [2], rfl, by simp, rfl, fun i hi => ?_, trivial, ?_⟩
  · simp [S__law_faces] at hi; simp [hi]
  rintro s mc ⟨fs, q8, rfl, rfl, hfs1, hfs2⟩
  have e8 : putAll [stm q, stm q2, stm q7] [2] [stm q8] ++ [stm q8].drop ([2] : List Nat).length = [stm q, stm q2, stm q8] := by simp [putAll]
  rw [e8]
  simp only [backV]
  walk_at "go"
  refine we_callM ?_
  walk_at "go"
  refine ⟨(ns, q8), [2], by rw [← hns]; rfl, by simp, rfl, fun i hi => ?_, hnl, ?_⟩
  · simp [S__law_shown] at hi; simp [hi]
  rintro s mc ⟨sh, q9, rfl, rfl, hsh⟩
  have e9 : putAll [stm q, stm q2, stm q8] [2] [stm q9] ++ [stm q9].drop ([2] : List Nat).length = [stm q, stm q2, stm q9] := by simp [putAll]
  rw [e9]
  simp only [backV]
  walk_at "go"
  refine ⟨⟨ns, lks, fs, sh⟩, by rw [← hns]; rfl, ⟨hnl, hL.ok, hfs1, hfs2, hsh, hb.pie⟩, fun d hd => ?_⟩
  obtain ⟨uus, rfl, hU1, hU2⟩ := hd
  try simp only at hU1 hU2
  walk_at "go"
  refine ⟨⟨ns, lks, uus, lv⟩, by rw [← hns]; rfl, ⟨hb, hL, hU1, hU2⟩, fun d hd => ?_⟩
  obtain ⟨bs, rfl, hbs⟩ := hd
  try simp only at hbs
  walk_at "go"
  refine we_tk rfl ?_
  walk_at "go"
  refine ⟨200, q9, rfl, ⟨by omega, by omega⟩, rfl, fun r10 q10 c1 c2 => ?_⟩
  walk_at "go"
  refine ⟨⟨ns, lks, bs, 20 + r10, lv⟩, by rw [← hns]; rfl, ⟨hb, hL, hbs, by show 0 ≤ 20 + r10; omega, by show 20 + r10 ≤ 1000; omega⟩, fun d hd => ?_⟩
  obtain ⟨sp, rfl, hsp⟩ := hd
  walk_at "go"
  refine we_lst ?_
  walk_at "go"
  refine ⟨Nat.le_of_ble_eq_true rfl, ?_⟩
  exact ⟨rfl, _, rfl, ⟨ns, lks, uus, sp, lv, en⟩, by rw [← hns]; rfl, hb, hO, hL, ⟨hU1, hU2⟩, hsp⟩
end
end LP
end

section
set_option maxHeartbeats 4000000
/-! L5: the law's tests of boxes. -/
namespace LP
open PySem PySem.Spec PyProof.Rows L2
section
variable {P : Program} {w : World} {K : PySem.W.Frag} {mg : Str → Option Value} {base : Heap}
/-- two boxes that meet -/
def meets (a b : Bx) : Prop := ¬ (a.t + a.h ≤ b.t ∨ b.t + b.h ≤ a.t) ∧ b.l < a.l + a.w ∧ a.l < b.l + b.w
def S__law_meet : PSpec (Bx × Bx) := ⟨fun x => [x.1.enc, x.2.enc], fun _ => True, fun x d => ∃ v, d = .bl v ∧ (v = true → meets x.1 x.2)⟩
theorem ok__law_meet (T : Top K mg) : Has P w K mg base 1 "_law_meet" ["_law_one", "_law_other"] (spG K S__law_meet.S) := by
  refine has_ok T.d__law_meet sc__law_meet (fun _ => rfl) (fun _ _ _ _ _ _ us hl => match us, hl with | [_, _], _ => rfl) (fun f cdv A outer s H E hr => ⟨_, (pss_cons (ps_if (PW.pt (pw_or (pt_cmpR op_le (pe_op op_add (pe_ix (ix_tupK (K := K) rfl) (pv 0) pe_int (fun _ _ => rfl)) (pe_ix (ix_tupK (K := K) rfl) (pv 0) pe_int (fun _ _ => rfl))) (pe_ix (ix_tupK (K := K) rfl) (pv 1) pe_int (fun _ _ => rfl)) (nomark _)) (pw_or1 (pt_cmpR op_le (pe_op op_add (pe_ix (ix_tupK (K := K) rfl) (pv 1) pe_int (fun _ _ => rfl)) (pe_ix (ix_tupK (K := K) rfl) (pv 1) pe_int (fun _ _ => rfl))) (pe_ix (ix_tupK (K := K) rfl) (pv 0) pe_int (fun _ _ => rfl)) (nomark _))))) (pss_one (ps_ret pe_bl)) pss_nil)
      (pss_one (ps_ret (pe_and (pe_cmpR op_gt (pe_op op_add (pe_ix (ix_tupK (K := K) rfl) (pv 0) pe_int (fun _ _ => rfl)) (pe_ix (ix_tupK (K := K) rfl) (pv 0) pe_int (fun _ _ => rfl))) (pe_ix (ix_tupK (K := K) rfl) (pv 1) pe_int (fun _ _ => rfl)) (nomark _)) (pe_one (pe_cmpR op_gt (pe_op op_add (pe_ix (ix_tupK (K := K) rfl) (pv 1) pe_int (fun _ _ => rfl)) (pe_ix (ix_tupK (K := K) rfl) (pv 1) pe_int (fun _ _ => rfl))) (pe_ix (ix_tupK (K := K) rfl) (pv 0) pe_int (fun _ _ => rfl)) (nomark _))))))), ?_⟩)
  rintro ⟨⟨k1, l1, t1, w1, h1⟩, ⟨k2, l2, t2, w2, h2⟩⟩ hp
  simp only [cxOf, Cx.nox, Cx.wish, Cx.blk, S__law_meet, N__law_meet, startR, PSpec.S_args, PSpec.S_mu, PSpec.S_pre, PSpec.S_post, List.map_cons, List.map_nil, List.length_cons, List.length_nil, Nat.reduceAdd, Nat.reduceSub, List.replicate_succ, List.replicate_zero, List.cons_append, List.nil_append, List.append_nil] at hp ⊢
  walk_at "go"
  refine ifd (fun a => ⟨fun _ => ?_, fun z => (by cases z)⟩) (fun a => ?_)
  · walk_at "go"
    exact ⟨rfl, _, rfl, false, rfl, fun z => by cases z⟩
  walk_at "go"
  refine ifd (fun b => ?_) (fun b => ?_)
  · walk_at "go"
    exact ⟨rfl, _, rfl, false, rfl, fun z => by cases z⟩
  walk_at "go"
  refine ifd (fun c => ?_) (fun c => ?_)
  · walk_at "go"
    refine ⟨rfl, _, rfl, _, rfl, fun z => ⟨fun y => ?_, c, of_decide_eq_true z⟩⟩
    rcases y with y | y
    · exact a y
    · exact b y
  · exact ⟨rfl, _, rfl, false, rfl, fun z => by cases z⟩
structure JUg where
  sp : List (Int × Int)
  f : Key → Option D
  n : Nat
  i : Nat
  b : Bx
  p : Int × Int
def S__law_juts : Spec JUg := ⟨fun x => [.dat (encP x.sp), .ob 0, .dat (.int (x.i : Int))], fun x => [.dK x.f x.n], fun x => x.f (.inl (x.i : Int)) = some x.b.enc ∧ x.sp[x.i]? = some x.p,
  fun x s mu => mu = [.dK x.f x.n] ∧ s = .dat (.bl (decide (x.p.2 < x.b.w)))⟩
theorem ok__law_juts (T : Top K mg) : Has P w K mg base 1 "_law_juts" ["_law_spans", "_law_boxes", "_law_node"] (spG K S__law_juts) := by
  refine has_ok T.d__law_juts sc__law_juts (fun _ => rfl) (fun _ _ _ _ _ _ us hl => match us, hl with | [_, _, _], _ => rfl) (fun f cdv A outer s H E hr => ⟨_, (pss_one (ps_ret (pe_cmpR op_gt (pe_ix (ix_tupK (K := K) rfl) (pe_dget (hu_of hr) (pv 1) (pv 2) (fun _ _ => rfl)) pe_int (fun _ _ => rfl)) (pe_ix (ix_tupK (K := K) rfl) (pe_ix (ix_listK (K := K) rfl) (pv 0) (pv 2) (fun _ _ => rfl)) pe_int (fun _ _ => rfl)) (nomark _)))), ?_⟩)
  rintro ⟨sp, f, n, i, b, p⟩ hp
  simp only [cxOf, Cx.nox, Cx.wish, Cx.blk, S__law_juts, N__law_juts, startR, PSpec.S_args, PSpec.S_mu, PSpec.S_pre, PSpec.S_post, List.map_cons, List.map_nil, List.length_cons, List.length_nil, Nat.reduceAdd, Nat.reduceSub, List.replicate_succ, List.replicate_zero, List.cons_append, List.nil_append, List.append_nil] at hp ⊢
  obtain ⟨h1, h2⟩ := hp
  walk_at "go"
  refine we_dget ?_
  walk_at "go"
  refine ⟨0, f, n, .inl (i : Int), b.enc, rfl, rfl, rfl, h1, ?_⟩
  walk_at "go"
  refine wr_ixL isl_d (at_m h2) ?_
  walk_at "go"
  exact ⟨rfl, rfl⟩
structure RMg where
  lks : List (List Int)
  f : Key → Option D
  n : Nat
  i : Nat
  b : Bx
def S__law_room : Spec RMg := ⟨fun x => [.dat (encLk x.lks), .ob 0, .dat (.int (x.i : Int))], fun x => [.dK x.f x.n], fun x => x.f (.inl (x.i : Int)) = some x.b.enc ∧ LkR x.lks (x.i + 1),
  fun x s mu => mu = [.dK x.f x.n] ∧ ∃ r, s = .dat (.lst [.int (x.b.l + lk x.lks x.i 3), .int r])⟩
theorem ok__law_room (T : Top K mg) : Has P w K mg base 1 "_law_room" ["_law_looks_here", "_law_boxes", "_law_node"] (spG K S__law_room) := by
  refine has_ok T.d__law_room sc__law_room (fun _ => rfl) (fun _ _ _ _ _ _ us hl => match us, hl with | [_, _, _], _ => rfl) (fun f cdv A outer s H E hr => ⟨_, (pss_cons (ps_set (i := 3) sc__law_room.nd rfl (.inl rfl) (pe_ix (ix_listK (K := K) rfl) (pe_ix (ix_listK (K := K) rfl) (pv 0) (pv 2) (fun _ _ => rfl)) pe_int (fun _ _ => rfl)))
      (pss_cons (ps_set (i := 4) sc__law_room.nd rfl (.inl rfl) (pe_op op_add (pe_ix (ix_tupK (K := K) rfl) (pe_dget (hu_of hr) (pv 1) (pv 2) (fun _ _ => rfl)) pe_int (fun _ _ => rfl)) (pv 3)))
      (pss_one (ps_ret (pe_lst (pa_cons (pv 4) (pa_cons (pe_op op_add (pv 4) (pe_callB (call_max2 rfl) (by rfl) T.b_max bt_max (pa_cons pe_int (pa_cons (pe_op op_sub (pe_ix (ix_tupK (K := K) rfl) (pe_dget (hu_of hr) (pv 1) (pv 2) (fun _ _ => rfl)) pe_int (fun _ _ => rfl)) (pe_op op_mul pe_int (pv 3))) pa_nil)))) pa_nil))))))), ?_⟩)
  rintro ⟨lks, f, n, i, b⟩ hp
  simp only [cxOf, Cx.nox, Cx.wish, Cx.blk, S__law_room, N__law_room, startR, PSpec.S_args, PSpec.S_mu, PSpec.S_pre, PSpec.S_post, List.map_cons, List.map_nil, List.length_cons, List.length_nil, Nat.reduceAdd, Nat.reduceSub, List.replicate_succ, List.replicate_zero, List.cons_append, List.nil_append, List.append_nil] at hp ⊢
  obtain ⟨h1, h2⟩ := hp
  try simp only at h1 h2
  obtain ⟨l, h3, h4⟩ := h2.ok.get (Nat.lt_succ_self _) (show 3 < 13 by omega)
  have h5 := h2.inset i (Nat.lt_succ_self _)
  walk_at "go"
  refine wr_ixL isl_d (at_m h3) ?_
  walk_at "go"
  refine wr_ixL isl_d (i := 3) (at_i (i := 3) rfl h4) ?_
  walk_at "go"
  refine we_dget ?_
  walk_at "go"
  refine ⟨0, f, n, .inl (i : Int), b.enc, rfl, rfl, rfl, h1, ?_⟩
  walk_at "go"
  refine we_lst2 ?_
  walk_at "go"
  refine we_dget ?_
  walk_at "go"
  refine ⟨0, f, n, .inl (i : Int), b.enc, rfl, rfl, rfl, h1, ?_⟩
  walk_at "go"
  refine wr_mul (.inl ⟨by omega, by omega⟩) ?_
  walk_at "go"
  exact ⟨rfl, _, rfl⟩
structure WIg where
  ns : List Nd
  lks : List (List Int)
  f : Key → Option D
  n : Nat
  i : Nat
  e : Nat
  b : Bx
  h : Bx
/-- a box within its elder's -/
def within (x : WIg) : Prop := x.h.t ≤ x.b.t ∧ x.b.t + x.b.h ≤ x.h.t + x.h.h ∧ x.h.l + lk x.lks x.e 3 ≤ x.b.l
def S__law_within : Spec WIg := ⟨fun x => [.dat (encB x.ns), .dat (encLk x.lks), .ob 0, .dat (.int (x.i : Int))], fun x => [.dK x.f x.n],
  fun x => (∃ m, x.ns[x.i]? = some m ∧ m.el = (x.e : Int)) ∧ x.f (.inl (x.i : Int)) = some x.b.enc ∧ x.f (.inl (x.e : Int)) = some x.h.enc ∧ LkR x.lks (x.e + 1) ∧ within x,
  fun x s mu => mu = [.dK x.f x.n] ∧ s = .dat (.bl true)⟩
theorem ok__law_within (T : Top K mg) : Has P w K mg base 2 "_law_within" ["_law_book_here", "_law_looks_here", "_law_boxes", "_law_node"] (spG K S__law_within) := by
  have h__law_room := ok__law_room (P := P) (w := w) (K := K) (base := base) T
  refine has_ok T.d__law_within sc__law_within (fun _ => rfl) (fun _ _ _ _ _ _ us hl => match us, hl with | [_, _, _, _], _ => rfl) (fun f cdv A outer s H E hr => ⟨_, (pss_cons (ps_set (i := 4) sc__law_within.nd rfl (.inl rfl) (pe_ix (ix_tupK (K := K) rfl) (pe_ix (ix_listK (K := K) rfl) (pv 0) (pv 3) (fun _ _ => rfl)) pe_int (fun _ _ => rfl)))
      (pss_cons (ps_set (i := 5) sc__law_within.nd rfl (.inl rfl) (pe_dget (hu_of hr) (pv 2) (pv 3) (fun _ _ => rfl)))
      (pss_cons (ps_set (i := 6) sc__law_within.nd rfl (.inl rfl) (pe_dget (hu_of hr) (pv 2) (pv 4) (fun _ _ => rfl)))
      (pss_cons (ps_if (PW.pt (pw_or (pt_cmpR op_lt (pe_ix (ix_tupK (K := K) rfl) (pv 5) pe_int (fun _ _ => rfl)) (pe_ix (ix_tupK (K := K) rfl) (pv 6) pe_int (fun _ _ => rfl)) (nomark _)) (pw_or1 (pt_cmpR op_gt (pe_op op_add (pe_ix (ix_tupK (K := K) rfl) (pv 5) pe_int (fun _ _ => rfl)) (pe_ix (ix_tupK (K := K) rfl) (pv 5) pe_int (fun _ _ => rfl))) (pe_op op_add (pe_ix (ix_tupK (K := K) rfl) (pv 6) pe_int (fun _ _ => rfl)) (pe_ix (ix_tupK (K := K) rfl) (pv 6) pe_int (fun _ _ => rfl))) (nomark _))))) (pss_one (ps_ret pe_bl)) pss_nil)
      (pss_cons (ps_asg (pe_has h__law_room hr (by omega) (by rfl) (pa_cons (pv 1) (pa_cons (pv 2) (pa_cons (pv 4) pa_nil)))) (pg_unlK (K := K) rfl rfl (pgs_cons (pg_name (i := 7) sc__law_within.nd rfl (.inl rfl)) (pgs_cons (pg_name (i := 8) sc__law_within.nd rfl (.inl rfl)) pgs_nil))))
      (pss_one (ps_ret (pe_cmpR op_ge (pe_ix (ix_tupK (K := K) rfl) (pv 5) pe_int (fun _ _ => rfl)) (pv 7) (nomark _))))))))), ?_⟩)
  rintro ⟨ns, lks, f, n, i, e, b, h⟩ hp
  simp only [cxOf, Cx.nox, Cx.wish, Cx.blk, S__law_within, N__law_within, startR, PSpec.S_args, PSpec.S_mu, PSpec.S_pre, PSpec.S_post, List.map_cons, List.map_nil, List.length_cons, List.length_nil, Nat.reduceAdd, Nat.reduceSub, List.replicate_succ, List.replicate_zero, List.cons_append, List.nil_append, List.append_nil] at hp ⊢
  obtain ⟨⟨m, hm, hme⟩, h1, h2, h3, h4, h5, h6⟩ := hp
  try simp only at hm hme h1 h2 h3 h4 h5 h6
  walk_at "go"
  refine wr_ixL isl_d (at_m hm) ?_
  walk_at "go"
  rw [hme]
  refine we_dget ?_
  walk_at "go"
  refine ⟨0, f, n, .inl (i : Int), b.enc, rfl, rfl, rfl, h1, ?_⟩
  walk_at "go"
  refine we_dget ?_
  walk_at "go"
  refine ⟨0, f, n, .inl (e : Int), h.enc, rfl, rfl, rfl, h2, ?_⟩
  walk_at "go"
  refine ifd (fun a => absurd a (by omega)) (fun _ => ?_)
  walk_at "go"
  refine ifd (fun a => absurd a (by omega)) (fun _ => ?_)
  walk_at "go"
  refine we_callM ?_
  walk_at "go"
  refine ⟨⟨lks, f, n, e, h⟩, [0], rfl, by simp, rfl, fun i hi => ?_, ⟨h2, h3⟩, ?_⟩
  · simp [S__law_room] at hi; simp [hi]
  rintro s mc ⟨rfl, r, rfl⟩
  dsimp only [backV, putAll, List.drop, List.length_cons, List.length_nil, List.append_nil, lset0, lsetS, Nat.zero_add]
  walk_at "go"
  exact ⟨rfl, by rw [decide_eq_true h6]⟩
end
end LP
end

section
set_option maxHeartbeats 4000000
/-! L5b: the law's tests of siblings. -/
namespace LP
open PySem PySem.Spec PyProof.Rows L2
def before (ns : List Nd) (i : Nat) (e : Int) : List Nat := (List.range i).filter fun k => decide ((ns.map Nd.el)[k]? = some e)
theorem before_hold {ns : List Nd} {lv : Nat → Nat} (b : Bk ns lv) {i : Nat} {n : Nd} {e : Nat} (hn : ns[i]? = some n) (he : n.el = (e : Int)) (hei : e < i) : ∃ rest, hold ns e = before ns i (e : Int) ++ i :: rest := by
  have hi := (List.getElem?_eq_some_iff.mp hn).1
  have e1 : before ns i (e : Int) = (List.range i).filter fun j => decide (e < j) && decide ((ns.map Nd.el)[j]? = some (e : Int)) := by
    unfold before
    apply List.filter_congr
    intro k hk
    have hk := List.mem_range.mp hk
    by_cases h : e < k
    · simp [h]
    · simp only [h, decide_false, Bool.false_and]
      apply decide_eq_false
      rw [List.getElem?_map, getI (show k < ns.length by omega)]
      intro z
      have z := Option.some.inj z
      have hx := getI (xs := ns) (i := k) (by omega)
      rcases Nat.eq_zero_or_pos k with y | y
      · subst y
        have := (b.root _ hx).2
        rw [this] at z; omega
      · obtain ⟨e', m, h1, h2, _⟩ := b.eld k _ y hx
        rw [h1] at z; omega
  rw [e1]
  unfold hold
  have e2 : List.range ns.length = List.range i ++ (i :: (List.range (ns.length - (i + 1))).map fun k => i + 1 + k) := by
    have h : ns.length = i + (1 + (ns.length - (i + 1))) := by omega
    conv => lhs; rw [h, List.range_add, List.range_add]
    congr 1
    rw [List.map_append, List.map_map]
    simp [List.range_succ]
    intro a _
    omega
  rw [e2, List.filter_append, List.filter_cons, if_pos]
  · exact ⟨_, rfl⟩
  · have : (ns.map Nd.el)[i]? = some (e : Int) := by rw [List.getElem?_map, hn]; exact congrArg some he
    simp [hei, this]
section
variable {P : Program} {w : World} {K : PySem.W.Frag} {mg : Str → Option Value} {base : Heap}
structure BEg where
  ns : List Nd
  i : Nat
  lv : Nat → Nat
def S__law_beside : PSpec BEg := ⟨fun x => [encB x.ns, .int (x.i : Int)], fun x => Bk x.ns x.lv ∧ 0 < x.i ∧ x.i < x.ns.length, fun x d => d = encON (asideOf x.ns x.i)⟩
theorem ok__law_beside (T : Top K mg) : Has P w K mg base 1 "_law_beside" ["_law_book_here", "_law_node"] (spG K S__law_beside.S) := by
  refine has_ok T.d__law_beside sc__law_beside (fun _ => rfl) (fun _ _ _ _ _ _ us hl => match us, hl with | [_, _], _ => rfl) (fun f cdv A outer s H E hr => ⟨_, (pss_cons (ps_setLc (i := 2) (own := [("_law_k", 3)]) (g := (gName 3)) rfl sc__law_beside.nd rfl rfl (sw_true rfl rfl rfl (by decide +kernel)) (pi_range1 (by rfl) T.b_range (pa_cons (pv 1) pa_nil)) (blkOk_by (N := N__law_beside) (sc := defScope s__law_beside) (by decide +kernel)) (fun _ _ _ _ _ => (pg_name (i := 3) sc__law_beside.nd rfl (.inl rfl))) (fun _ _ _ _ _ => (pts_one (pt_cmpR op_eq (pe_ix (ix_tupK (K := K) rfl) (pe_ix (ix_listK (K := K) rfl) (pv 0) (pv 3) (fun _ _ => rfl)) pe_int (fun _ _ => rfl)) (pe_ix (ix_tupK (K := K) rfl) (pe_ix (ix_listK (K := K) rfl) (pv 0) (pv 1) (fun _ _ => rfl)) pe_int (fun _ _ => rfl)) (nomark _)))) (fun _ _ _ _ _ => (pv 3)))
      (pss_cons (ps_if (PW.pt (pw_and (pt_cmpR op_eq (pe_ix (ix_tupK (K := K) rfl) (pe_ix (ix_listK (K := K) rfl) (pv 0) (pv 1) (fun _ _ => rfl)) pe_int (fun _ _ => rfl)) pe_str (nomark _)) (pw_and (pt_cmpR (op_neDK (K := K) rfl hr.units) (pv 2) (pe_lst pa_nil) (nomark _)) (pw_and1 (pt_cmpR op_eq (pe_ix (ix_tupK (K := K) rfl) (pe_ix (ix_listK (K := K) rfl) (pv 0) (pe_ix (ix_listK (K := K) rfl) (pv 2) (pe_un un_neg pe_int) (fun _ _ => rfl)) (fun _ _ => rfl)) pe_int (fun _ _ => rfl)) pe_str (nomark _)))))) (pss_one (ps_ret (pe_ix (ix_listK (K := K) rfl) (pv 2) (pe_un un_neg pe_int) (fun _ _ => rfl)))) pss_nil)
      (pss_one (ps_ret pe_non)))), ?_⟩)
  rintro ⟨ns, i, lv⟩ hp
  simp only [cxOf, Cx.nox, Cx.wish, Cx.blk, S__law_beside, N__law_beside, startR, PSpec.S_args, PSpec.S_mu, PSpec.S_pre, PSpec.S_post, List.map_cons, List.map_nil, List.length_cons, List.length_nil, Nat.reduceAdd, Nat.reduceSub, List.replicate_succ, List.replicate_zero, List.cons_append, List.nil_append, List.append_nil] at hp ⊢
  obtain ⟨hb, h0, hi⟩ := hp
  try simp only at hb h0 hi
  have hnl := hb.len
  have hn := getI hi
  obtain ⟨n, hnn⟩ : ∃ n, ns[i] = n := ⟨_, rfl⟩
  rw [hnn] at hn
  obtain ⟨e, m, he, hei, _⟩ := hb.eld i n h0 hn
  obtain ⟨rest, hh⟩ := before_hold hb hn he hei
  have hat : (hold ns e)[(before ns i (e : Int)).length]? = some i := by
    rw [hh, List.getElem?_append_right (Nat.le_refl _), Nat.sub_self]; rfl
  have has := asideOf_at hat hn
  have hbl : (before ns i (e : Int)).length ≤ i := by
    unfold before
    have := List.length_filter_le (fun k => decide ((ns.map Nd.el)[k]? = some (e : Int))) (List.range i)
    rwa [List.length_range] at this
  walk_at "go"
  refine we_lcP (fun k => decide ((ns.map Nd.el)[k]? = some (e : Int))) (fun k => .int (k : Int)) (gin_name (by decide)) (wi_r1 ?_)
  walk_at "go"
  refine ⟨_, rfl, by omega, by rw [rngD_len]; omega, rfl, fun k x hk => ?_, ?_⟩
  · obtain ⟨hk1, rfl⟩ := rngD_get hk
    have hkn := getI (xs := ns) (i := k) (by omega)
    walk_at "go"
    refine wr_ixL isl_d (at_i (i := k) (by omega) hkn) ?_
    walk_at "go"
    refine wr_ixL isl_d (at_m hn) ?_
    walk_at "go"
    refine ⟨rfl, decide_eq_decide.mpr ?_, fun _ => ?_⟩
    · rw [List.getElem?_map, hkn, he]
      simp
    · walk_at "go"
      exact ⟨rfl, by show D.int (0 + (k : Nat)) = _; rw [Int.zero_add]⟩
  rw [rngD_len, Int.toNat_natCast]
  have ef : fltD i (fun k => decide ((ns.map Nd.el)[k]? = some (e : Int))) (fun k => .int (k : Int)) = (((before ns i (e : Int)).map fun (k : Nat) => (k : Int)).map D.int) := by
    unfold fltD before
    rw [List.map_map]; rfl
  rw [ef]
  generalize before ns i (e : Int) = S at hat has hbl hh
  walk_at "go"
  refine wr_ixL isl_d (at_m hn) ?_
  walk_at "go"
  by_cases htx : n.kd = .text
  · refine ifd (fun _ => ?_) (fun h => absurd (by rw [htx]; rfl) h)
    walk_at "go"
    refine we_lst0 ?_
    refine wr_neD isl_d (es := ([] : List Int).map D.int) isl_d (ints_lay _).1 rfl (ints_shaped _) (ints_shaped []) ?_
    rw [ints_eqv]
    walk_at "go"
    by_cases hS : S = []
    · subst hS
      refine ifn (fun h => absurd rfl h) (fun _ => ?_)
      walk_at "go"
      refine ⟨rfl, _, rfl, ?_⟩
      rw [has, if_pos (.inr rfl)]; rfl
    · have hSl := List.length_pos_iff.mpr hS
      have hlast : S.getLast? = some (S[S.length - 1]'(by omega)) := by rw [List.getLast?_eq_getElem?]; exact getI (by omega)
      obtain ⟨k, hk⟩ : ∃ k, S[S.length - 1]'(by omega) = k := ⟨_, rfl⟩
      rw [hk] at hlast
      have hhk : (hold ns e)[S.length - 1]? = some k := by
        rw [hh, List.getElem?_append_left (by omega), ← List.getLast?_eq_getElem?]; exact hlast
      have hkl := (mem_hold.mp (List.mem_of_getElem? hhk)).1
      have hkn := getI hkl
      rw [if_neg (by rintro (z | z); exact z htx; omega), hhk] at has
      simp only [kdAt_of hkn] at has
      refine ifn (fun _ => ?_) (fun h => absurd (by simpa using h) hS)
      walk_at "go"
      rw [List.map_map]
      refine wr_ixL isl_d (at_last hlast) ?_
      refine wr_ixL isl_d (at_m hkn) ?_
      walk_at "go"
      refine ifd (fun h => ?_) (fun h => ?_)
      · walk_at "go"
        refine wr_ixL isl_d (at_last hlast) ?_
        refine ⟨rfl, _, rfl, ?_⟩
        rw [has, if_pos (by rw [Kd.inj (b := .aside) h])]; rfl
      · walk_at "go"
        refine ⟨rfl, _, rfl, ?_⟩
        rw [has, if_neg (fun z => h (by rw [Option.some.inj z]; rfl))]; rfl
  · refine ifd (fun h => absurd (Kd.inj (b := .text) h) htx) (fun _ => ?_)
    walk_at "go"
    refine ⟨rfl, _, rfl, ?_⟩
    rw [has, if_pos (.inl htx)]; rfl

def heldN (ns : List Nd) (e : Nat) : List Nat := (List.range ns.length).filter fun k => decide ((ns.map Nd.el)[k]? = some (e : Int)) && decide (kdAt ns k ≠ some .note)
def S__law_held : PSpec (List Nd × Nat) := ⟨fun x => [encB x.1, .int (x.2 : Int)], fun x => x.1.length ≤ 1000, fun x d => d = encN (heldN x.1 x.2)⟩
theorem ok__law_held (T : Top K mg) : Has P w K mg base 1 "_law_held" ["_law_book_here", "_law_node"] (spG K S__law_held.S) := by
  refine has_ok T.d__law_held sc__law_held (fun _ => rfl) (fun _ _ _ _ _ _ us hl => match us, hl with | [_, _], _ => rfl) (fun f cdv A outer s H E hr => ⟨_, (pss_one (ps_ret (pe_lc (own := [("_law_k", 2)]) (g := (gName 2)) rfl sc__law_held.nd (pi_range1 (by rfl) T.b_range (pa_cons (pe_callB (call_lenK (K := K) rfl) (by rfl) T.b_len bt_len (pa_cons (pv 0) pa_nil)) pa_nil)) (blkOk_by (N := N__law_held) (sc := defScope s__law_held) (by decide +kernel)) (fun _ _ _ _ _ => (pg_name (i := 2) sc__law_held.nd rfl (.inl rfl))) (fun _ _ _ _ _ => (pts_one (PW.pt (pw_and (pt_cmpR op_eq (pe_ix (ix_tupK (K := K) rfl) (pe_ix (ix_listK (K := K) rfl) (pv 0) (pv 2) (fun _ _ => rfl)) pe_int (fun _ _ => rfl)) (pv 1) (nomark _)) (pw_and1 (pt_cmpR op_ne (pe_ix (ix_tupK (K := K) rfl) (pe_ix (ix_listK (K := K) rfl) (pv 0) (pv 2) (fun _ _ => rfl)) pe_int (fun _ _ => rfl)) pe_str (nomark _))))))) (fun _ _ _ _ _ => (pv 2))))), ?_⟩)
  rintro ⟨ns, e⟩ hp
  simp only [cxOf, Cx.nox, Cx.wish, Cx.blk, S__law_held, N__law_held, startR, PSpec.S_args, PSpec.S_mu, PSpec.S_pre, PSpec.S_post, List.map_cons, List.map_nil, List.length_cons, List.length_nil, Nat.reduceAdd, Nat.reduceSub, List.replicate_succ, List.replicate_zero, List.cons_append, List.nil_append, List.append_nil] at hp ⊢
  walk_at "go"
  refine we_lcP (fun k => decide ((ns.map Nd.el)[k]? = some (e : Int)) && decide (kdAt ns k ≠ some .note)) (fun k => .int (k : Int)) (gin_name (by decide)) (wi_r1 ?_)
  walk_at "go"
  rw [List.length_map]
  refine ⟨_, rfl, by omega, by rw [rngD_len]; omega, rfl, fun k x hk => ?_, ?_⟩
  · obtain ⟨hk1, rfl⟩ := rngD_get hk
    have hkn := getI (xs := ns) (i := k) (by omega)
    obtain ⟨n, hnn⟩ : ∃ n, ns[k]'(by omega) = n := ⟨_, rfl⟩
    rw [hnn] at hkn
    have ek : kdAt ns k = some n.kd := kdAt_of hkn
    have el : (ns.map Nd.el)[k]? = some n.el := by rw [List.getElem?_map, hkn]; rfl
    rw [ek, el]
    walk_at "go"
    refine wr_ixL isl_d (at_i (i := k) (by omega) hkn) ?_
    walk_at "go"
    refine ifd (fun h => ?_) (fun h => ?_)
    · walk_at "go"
      refine wr_ixL isl_d (at_i (i := k) (by omega) hkn) ?_
      walk_at "go"
      refine ⟨rfl, ?_, fun _ => ?_⟩
      · rw [show decide (n.kd.s = ("note" : Str)) = decide (n.kd = .note) from kd_dec n.kd .note]
        simp [h]
      · walk_at "go"
        exact ⟨rfl, by show D.int (0 + (k : Nat)) = _; rw [Int.zero_add]⟩
    · exact ⟨rfl, by simp [h], fun z => by cases z⟩
  · rw [rngD_len, Int.toNat_natCast]
    refine ⟨rfl, _, rfl, rfl⟩
structure APg where
  ns : List Nd
  sp : List (Int × Int)
  f : Key → Option D
  n : Nat
  i : Nat
  j : Nat
  a : Bx
  b : Bx
  p : Int × Int
  q : Int × Int
  lv : Nat → Nat
def apart (x : APg) : Prop := asideOf x.ns x.j = some x.i ∨ x.p.2 < x.a.w ∨ x.q.2 < x.b.w ∨ ¬ meets x.a x.b
def S__law_apart : Spec APg := ⟨fun x => [.dat (encB x.ns), .dat (encP x.sp), .ob 0, .dat (.int (x.i : Int)), .dat (.int (x.j : Int))], fun x => [.dK x.f x.n],
  fun x => Bk x.ns x.lv ∧ 0 < x.j ∧ x.j < x.ns.length ∧ x.f (.inl (x.i : Int)) = some x.a.enc ∧ x.f (.inl (x.j : Int)) = some x.b.enc ∧ x.sp[x.i]? = some x.p ∧ x.sp[x.j]? = some x.q ∧ apart x,
  fun x s mu => mu = [.dK x.f x.n] ∧ s = .dat (.bl true)⟩
theorem ok__law_apart (T : Top K mg) : Has P w K mg base 2 "_law_apart" ["_law_book_here", "_law_spans", "_law_boxes", "_law_one", "_law_other"] (spG K S__law_apart) := by
  have h__law_juts := ok__law_juts (P := P) (w := w) (K := K) (base := base) T
  have h__law_beside := ok__law_beside (P := P) (w := w) (K := K) (base := base) T
  have h__law_meet := ok__law_meet (P := P) (w := w) (K := K) (base := base) T
  refine has_ok T.d__law_apart sc__law_apart (fun _ => rfl) (fun _ _ _ _ _ _ us hl => match us, hl with | [_, _, _, _, _], _ => rfl) (fun f cdv A outer s H E hr => ⟨_, (pss_cons (ps_if (PW.pt (pw_or (pt_cmpR op_eq (pe_has h__law_beside hr (by omega) (by rfl) (pa_cons (pv 0) (pa_cons (pv 4) pa_nil))) (pv 3) (nomark _)) (pw_or (pt_val (pe_has h__law_juts hr (by omega) (by rfl) (pa_cons (pv 1) (pa_cons (pv 2) (pa_cons (pv 3) pa_nil))))) (pw_or1 (pt_val (pe_has h__law_juts hr (by omega) (by rfl) (pa_cons (pv 1) (pa_cons (pv 2) (pa_cons (pv 4) pa_nil))))))))) (pss_one (ps_ret pe_bl)) pss_nil)
      (pss_one (ps_ret (pe_not (pe_has h__law_meet hr (by omega) (by rfl) (pa_cons (pe_dget (hu_of hr) (pv 2) (pv 3) (fun _ _ => rfl)) (pa_cons (pe_dget (hu_of hr) (pv 2) (pv 4) (fun _ _ => rfl)) pa_nil))))))), ?_⟩)
  rintro ⟨ns, sp, f, n, i, j, a, b, p, q, lv⟩ hp
  simp only [cxOf, Cx.nox, Cx.wish, Cx.blk, S__law_apart, N__law_apart, startR, PSpec.S_args, PSpec.S_mu, PSpec.S_pre, PSpec.S_post, List.map_cons, List.map_nil, List.length_cons, List.length_nil, Nat.reduceAdd, Nat.reduceSub, List.replicate_succ, List.replicate_zero, List.cons_append, List.nil_append, List.append_nil] at hp ⊢
  obtain ⟨hb, h0, hj, h1, h2, h3, h4, hap⟩ := hp
  unfold apart at hap
  try simp only at hb h0 hj h1 h2 h3 h4 hap
  walk_at "gi"
  refine ws_mid (fun ρ m => ρ = [some (.dat (encB ns)), some (.dat (encP sp)), some (.ob 0), some (.dat (.int (i : Int))), some (.dat (.int (j : Int)))] ∧ m = [.dK f n] ∧ asideOf ns j ≠ some i ∧ ¬ p.2 < a.w ∧ ¬ q.2 < b.w) ?_ ?_
  · refine ws_if (wt_mono (Ψ' := fun v m => m = [.dK f n] ∧ (v = false → asideOf ns j ≠ some i ∧ ¬ p.2 < a.w ∧ ¬ q.2 < b.w)) ?_ ?_)
    · walk_at "go"
      refine ⟨⟨ns, j, lv⟩, rfl, ⟨hb, h0, hj⟩, fun d hd => ?_⟩
      simp only [S__law_beside] at hd
      subst hd
      by_cases hne' : asideOf ns j = some i
      · rw [hne']
        simp only [encON]
        walk_at "go"
        exact ifd (fun _ => ⟨rfl, fun z => by cases z⟩) (fun z => absurd rfl z)
      · have hne : asideOf ns j ≠ some i := hne'
        cases hq : asideOf ns j with
        | none =>
          rw [hq] at hne
          simp only [encON]
          walk_at "go"
          refine wr_eqNI ?_
          walk_at "go"
          refine we_callM ?_
          walk_at "go"
          refine ⟨⟨sp, f, n, i, a, p⟩, [0], rfl, by simp, rfl, fun i hi => ?_, ⟨h1, h3⟩, ?_⟩
          · simp [S__law_juts] at hi; simp [hi]
          rintro s mc ⟨rfl, rfl⟩
          dsimp only [backV, putAll, List.drop, List.length_cons, List.length_nil, List.append_nil, lset0, lsetS, Nat.zero_add]
          walk_at "go"
          refine ifd (fun _ => ⟨rfl, fun z => by cases z⟩) (fun g2 => ?_)
          walk_at "go"
          refine we_callM ?_
          walk_at "go"
          refine ⟨⟨sp, f, n, j, b, q⟩, [0], rfl, by simp, rfl, fun i hi => ?_, ⟨h2, h4⟩, ?_⟩
          · simp [S__law_juts] at hi; simp [hi]
          rintro s mc ⟨rfl, rfl⟩
          dsimp only [backV, putAll, List.drop, List.length_cons, List.length_nil, List.append_nil, lset0, lsetS, Nat.zero_add]
          walk_at "go"
          exact ⟨rfl, fun z => ⟨hne, g2, of_decide_eq_false z⟩⟩
        | some k =>
          rw [hq] at hne
          simp only [encON]
          walk_at "go"
          refine ifd (fun z => absurd (by rw [show k = i by omega]) hne) (fun _ => ?_)
          walk_at "go"
          refine we_callM ?_
          walk_at "go"
          refine ⟨⟨sp, f, n, i, a, p⟩, [0], rfl, by simp, rfl, fun i hi => ?_, ⟨h1, h3⟩, ?_⟩
          · simp [S__law_juts] at hi; simp [hi]
          rintro s mc ⟨rfl, rfl⟩
          dsimp only [backV, putAll, List.drop, List.length_cons, List.length_nil, List.append_nil, lset0, lsetS, Nat.zero_add]
          walk_at "go"
          refine ifd (fun _ => ⟨rfl, fun z => by cases z⟩) (fun g2 => ?_)
          walk_at "go"
          refine we_callM ?_
          walk_at "go"
          refine ⟨⟨sp, f, n, j, b, q⟩, [0], rfl, by simp, rfl, fun i hi => ?_, ⟨h2, h4⟩, ?_⟩
          · simp [S__law_juts] at hi; simp [hi]
          rintro s mc ⟨rfl, rfl⟩
          dsimp only [backV, putAll, List.drop, List.length_cons, List.length_nil, List.append_nil, lset0, lsetS, Nat.zero_add]
          walk_at "go"
          exact ⟨rfl, fun z => ⟨hne, g2, of_decide_eq_false z⟩⟩
    · rintro v m ⟨rfl, hv⟩
      cases v with
      | true =>
        refine ift ?_
        walk_at "go"
        exact ⟨rfl, rfl⟩
      | false =>
        refine iff' ?_
        walk_at "go"
        exact ⟨rfl, rfl, hv rfl⟩
  rintro ρ m ⟨rfl, rfl, g1, g2, g3⟩
  walk_at "go"
  refine we_dget ?_
  walk_at "go"
  refine ⟨0, f, n, .inl (i : Int), a.enc, rfl, rfl, rfl, h1, ?_⟩
  walk_at "go"
  refine we_dget ?_
  walk_at "go"
  refine ⟨0, f, n, .inl (j : Int), b.enc, rfl, rfl, rfl, h2, ?_⟩
  walk_at "go"
  refine ⟨(a, b), rfl, trivial, fun d hd => ?_⟩
  obtain ⟨v, rfl, hv⟩ := hd
  walk_at "go"
  have hnm : ¬ meets a b := by
    rcases hap with z | z | z | z
    · exact absurd z g1
    · exact absurd z g2
    · exact absurd z g3
    · exact z
  refine ⟨rfl, ?_⟩
  cases v with
  | true => exact absurd (hv rfl) hnm
  | false => rfl
end
end LP
end

section
set_option maxHeartbeats 4000000
/-! L6: the law's test of a text's rows. -/
namespace LP
open PySem PySem.Spec PyProof.Rows L2
theorem ceil_ok {h H c : Int} (hH : 1 ≤ H) (hc : c = (h + H - 1) / H) : ¬ c * H < h ∧ ¬ h ≤ (c - 1) * H := by
  have h1 := Int.mul_ediv_add_emod (h + H - 1) H
  have h2 := Int.emod_nonneg (h + H - 1) (show H ≠ 0 by omega)
  have h3 := Int.emod_lt_of_pos (h + H - 1) (show 0 < H by omega)
  rw [← hc] at h1
  have h4 : H * c = c * H := Int.mul_comm _ _
  have h5 : (c - 1) * H = c * H - H := by rw [Int.sub_mul, Int.one_mul]
  omega
section
variable {P : Program} {w : World} {K : PySem.W.Frag} {mg : Str → Option Value} {base : Heap}
structure RBg where
  ns : List Nd
  lks : List (List Int)
  uus : List (List Un)
  sp : List (Int × Int)
  zs : List Sz
  i : Nat
  lv : Nat → Nat
def RBok (x : RBg) : Prop := Bk x.ns x.lv ∧ LkR x.lks x.ns.length ∧ UUOk x.ns x.uus ∧ SpW x.ns x.sp ∧ 0 < x.i ∧ (∃ n, x.ns[x.i]? = some n ∧ n.kd = .text) ∧ ∃ z, x.zs[x.i]? = some z ∧ TxOk x.ns x.lks x.uus x.sp (fun k => x.zs[k]?) x.i z
def S__law_rows_beside : PSpec RBg := ⟨fun x => [encB x.ns, encLk x.lks, encUU x.uus, encP x.sp, encSz x.zs, .int (x.i : Int)], RBok, fun _ d => d = .bl true⟩
theorem ok__law_rows_beside (T : Top K mg) : Has P w K mg base 2 "_law_rows_beside" ["_law_book_here", "_law_looks_here", "_law_units", "_law_spans", "_law_sizes", "_law_node"] (spG K S__law_rows_beside.S) := by
  have h__law_beside := ok__law_beside (P := P) (w := w) (K := K) (base := base) T
  refine has_ok T.d__law_rows_beside sc__law_rows_beside (fun _ => rfl) (fun _ _ _ _ _ _ us hl => match us, hl with | [_, _, _, _, _, _], _ => rfl) (fun f cdv A outer s H E hr => ⟨_, (pss_cons (ps_set (i := 6) sc__law_rows_beside.nd rfl (.inl rfl) (pe_has h__law_beside hr (by omega) (by rfl) (pa_cons (pv 0) (pa_cons (pv 5) pa_nil))))
      (pss_cons (ps_if (pt_cmpR op_isN (pv 6) pe_non (nomark _)) (pss_one (ps_ret pe_bl)) pss_nil)
      (pss_cons (ps_set (i := 7) sc__law_rows_beside.nd rfl (.inl rfl) (pe_callB (cr_maxK (K := K) rfl rfl) (by rfl) T.b_max bt_max (pa_cons (pe_lc (own := [("_law_unit", 16)]) (g := (gName 16)) (tt := tYes) rfl sc__law_rows_beside.nd (pi_listK (K := K) rfl (pe_ix (ix_listK (K := K) rfl) (pv 2) (pv 5) (fun _ _ => rfl))) (blkOk_by (N := N__law_rows_beside) (sc := defScope s__law_rows_beside) (by decide +kernel)) (fun _ _ _ _ _ => (pg_name (i := 16) sc__law_rows_beside.nd rfl (.inl rfl))) (fun _ _ _ _ _ => pts_nil) (fun _ _ _ _ _ => (pe_ix (ix_tupK (K := K) rfl) (pv 16) pe_int (fun _ _ => rfl)))) pa_nil)))
      (pss_cons (ps_set (i := 8) sc__law_rows_beside.nd rfl (.inl rfl) (pe_ix (ix_tupK (K := K) rfl) (pe_ix (ix_listK (K := K) rfl) (pv 4) (pv 5) (fun _ _ => rfl)) pe_int (fun _ _ => rfl)))
      (pss_cons (ps_if (PW.pt (pw_or (pt_cmpR op_lt (pe_op op_mul (pv 8) (pv 7)) (pe_ix (ix_tupK (K := K) rfl) (pe_ix (ix_listK (K := K) rfl) (pv 4) (pv 6) (fun _ _ => rfl)) pe_int (fun _ _ => rfl)) (nomark _)) (pw_or1 (PW.pt (pw_and (pt_cmpR op_gt (pv 8) pe_int (nomark _)) (pw_and1 (pt_cmpR op_ge (pe_op op_mul (pe_op op_sub (pv 8) pe_int) (pv 7)) (pe_ix (ix_tupK (K := K) rfl) (pe_ix (ix_listK (K := K) rfl) (pv 4) (pv 6) (fun _ _ => rfl)) pe_int (fun _ _ => rfl)) (nomark _)))))))) (pss_one (ps_ret pe_bl)) pss_nil)
      (pss_cons (ps_set (i := 9) sc__law_rows_beside.nd rfl (.inl rfl) (pe_callB (call_max2 rfl) (by rfl) T.b_max bt_max (pa_cons pe_int (pa_cons (pe_op op_sub (pe_ix (ix_tupK (K := K) rfl) (pe_ix (ix_listK (K := K) rfl) (pv 3) (pv 5) (fun _ _ => rfl)) pe_int (fun _ _ => rfl)) (pe_op op_mul pe_int (pe_ix (ix_listK (K := K) rfl) (pe_ix (ix_listK (K := K) rfl) (pv 1) (pv 5) (fun _ _ => rfl)) pe_int (fun _ _ => rfl)))) pa_nil))))
      (pss_cons (ps_for PassesOwn.never rfl (pi_enumK (K := K) rfl (by rfl) T.b_enumerate (pa_cons (pe_ix (ix_tupK (K := K) rfl) (pe_ix (ix_listK (K := K) rfl) (pv 4) (pv 5) (fun _ _ => rfl)) pe_int (fun _ _ => rfl)) pa_nil)) (pg_tupK (K := K) rfl rfl (pgs_cons (pg_name (i := 10) sc__law_rows_beside.nd rfl (.inl rfl)) (pgs_cons (pg_tupK (K := K) rfl rfl (pgs_cons (pg_name (i := 11) sc__law_rows_beside.nd rfl (.inl rfl)) (pgs_cons (pg_name (i := 12) sc__law_rows_beside.nd rfl (.inl rfl)) pgs_nil))) pgs_nil))) (pss_cons (ps_set (i := 13) sc__law_rows_beside.nd rfl (.inl rfl) (pv 9))
      (pss_cons (ps_if (pt_cmpR op_lt (pv 10) (pv 8) (nomark _)) (pss_one (ps_set (i := 13) sc__law_rows_beside.nd rfl (.inl rfl) (pe_callB (call_max2 rfl) (by rfl) T.b_max bt_max (pa_cons pe_int (pa_cons (pe_op op_sub (pv 9) (pe_ix (ix_tupK (K := K) rfl) (pe_ix (ix_listK (K := K) rfl) (pv 3) (pv 6) (fun _ _ => rfl)) pe_int (fun _ _ => rfl))) pa_nil))))) pss_nil)
      (pss_cons (ps_set (i := 14) sc__law_rows_beside.nd rfl (.inl rfl) (pe_slice (sl_listK (K := K) rfl) (pe_ix (ix_listK (K := K) rfl) (pv 2) (pv 5) (fun _ _ => rfl)) (po_some (pv 11)) (po_some (pv 12))))
      (pss_cons (ps_set (i := 15) sc__law_rows_beside.nd rfl (.inl rfl) (pe_op op_add (pe_callB (cr_sumK (K := K) rfl rfl) (by rfl) T.b_sum bt_sum (pa_cons (pe_lc (own := [("_law_unit", 16)]) (g := (gName 16)) (tt := tYes) rfl sc__law_rows_beside.nd (pi_listK (K := K) rfl (pv 14)) (blkOk_by (N := N__law_rows_beside) (sc := defScope s__law_rows_beside) (by decide +kernel)) (fun _ _ _ _ _ => (pg_name (i := 16) sc__law_rows_beside.nd rfl (.inl rfl))) (fun _ _ _ _ _ => pts_nil) (fun _ _ _ _ _ => (pe_ix (ix_tupK (K := K) rfl) (pv 16) pe_int (fun _ _ => rfl)))) pa_nil)) (pe_callB (cr_sumK (K := K) rfl rfl) (by rfl) T.b_sum bt_sum (pa_cons (pe_lc (own := [("_law_unit", 16)]) (g := (gName 16)) (tt := tYes) rfl sc__law_rows_beside.nd (pi_listK (K := K) rfl (pe_slice (sl_listK (K := K) rfl) (pv 14) po_none (po_some (pe_un un_neg pe_int)))) (blkOk_by (N := N__law_rows_beside) (sc := defScope s__law_rows_beside) (by decide +kernel)) (fun _ _ _ _ _ => (pg_name (i := 16) sc__law_rows_beside.nd rfl (.inl rfl))) (fun _ _ _ _ _ => pts_nil) (fun _ _ _ _ _ => (pe_ix (ix_tupK (K := K) rfl) (pv 16) pe_int (fun _ _ => rfl)))) pa_nil))))
      (pss_one (ps_if (PW.pt (pw_and (pt_cmpR op_gt (pv 15) (pv 13) (nomark _)) (pw_and1 (pt_cmpR op_gt (pe_op op_sub (pv 12) (pv 11)) pe_int (nomark _))))) (pss_one (ps_ret pe_bl)) pss_nil)))))))
      (pss_one (ps_ret pe_bl))))))))), ?_⟩)
  rintro ⟨ns, lks, uus, sp, zs, i, lv⟩ hp
  simp only [cxOf, Cx.nox, Cx.wish, Cx.blk, S__law_rows_beside, N__law_rows_beside, startR, PSpec.S_args, PSpec.S_mu, PSpec.S_pre, PSpec.S_post, List.map_cons, List.map_nil, List.length_cons, List.length_nil, Nat.reduceAdd, Nat.reduceSub, List.replicate_succ, List.replicate_zero, List.cons_append, List.nil_append, List.append_nil] at hp ⊢
  obtain ⟨hb, hL, hU, hsw, h0, ⟨n, hn, hkd⟩, z, hz, hz0, hz1⟩ := hp
  try simp only at hb hL hU hsw h0 hn hkd hz hz0 hz1
  have hi := (List.getElem?_eq_some_iff.mp hn).1
  have hnl := hb.len
  walk_at "go"
  refine ⟨⟨ns, i, lv⟩, rfl, ⟨hb, h0, hi⟩, fun d hd => ?_⟩
  simp only [S__law_beside] at hd
  subst hd
  cases hq : asideOf ns i with
  | none =>
    simp only [encON]
    walk_at "go"
    exact ⟨rfl, _, rfl, rfl⟩
  | some j =>
    obtain ⟨us, H, zj, q, p, hus, hH, hH1, hzj, hsq, hsp, hcnt, hrl, hrows⟩ := hz1 j hq
    try simp only at hzj
    obtain ⟨u1, u2, u3⟩ := hU.2 i us n hus hn (by rw [hkd]; rfl)
    have hul := u2.1
    have hin := hL.inset i hi
    have hHb : H ≤ 100 := by
      obtain ⟨u, hu, e⟩ := hH.1
      have := u3 u hu
      omega
    have hlk := hL.ok.get hi (show 3 < 13 by omega)
    obtain ⟨l, hl1, hl2⟩ := hlk
    simp only [encON]
    walk_at "go"
    refine we_lcM (α := Un) (gin_name (by decide)) (wi_list ?_)
    walk_at "go"
    refine wr_ixL isl_d (at_m hus) ?_
    refine lo ?_
    refine ⟨us, Un.enc, fun u => .int u.h, rfl, by omega, rfl, fun k u hu => ?_, ?_⟩
    · walk_at "go"
      refine ⟨rfl, ?_⟩
      walk_at "go"
      exact ⟨rfl, rfl⟩
    have em : us.map (fun u => D.int u.h) = (us.map Un.h).map D.int := by rw [List.map_map]; rfl
    rw [em]
    walk_at "go"
    refine wc_max isl_d (by simpa using u1) (fun H' hm1 hm2 => ?_)
    have hHe : H' = H := by
      obtain ⟨u, hu, e⟩ := List.mem_map.mp hm1
      obtain ⟨u', hu', e'⟩ := hH.1
      have := hH.2 u hu
      have := hm2 _ (List.mem_map.mpr ⟨u', hu', rfl⟩)
      omega
    subst hHe
    obtain ⟨g1, g2⟩ := ceil_ok hH1 hcnt
    walk_at "gi"
    refine wr_ixL isl_d (at_m hz) ?_
    walk_at "gi"
    refine ws_mid (fun ρ m => ρ = [some (.dat (encB ns)), some (.dat (encLk lks)), some (.dat (encUU uus)), some (.dat (encP sp)), some (.dat (encSz zs)), some (.dat (.int (i : Int))), some (.dat (.int (j : Int))), some (.dat (.int H')), some (.dat (.int z.cnt)), none, none, none, none, none, none, none, none] ∧ m = []) ?_ ?_
    · refine ws_if (wt_mono (Ψ' := fun b m => b = false ∧ m = []) ?_ ?_)
      · walk_at "go"
        refine wr_mul (.inr ⟨by omega, by omega⟩) ?_
        walk_at "go"
        refine wr_ixL isl_d (at_m hzj) ?_
        walk_at "go"
        refine ifd (fun h => absurd h g1) (fun _ => ?_)
        walk_at "go"
        refine ifd (fun _ => ?_) (fun _ => ⟨rfl, rfl⟩)
        walk_at "go"
        refine wr_mul (.inr ⟨by omega, by omega⟩) ?_
        walk_at "go"
        refine wr_ixL isl_d (at_m hzj) ?_
        walk_at "go"
        exact ⟨decide_eq_false g2, rfl⟩
      · rintro b m ⟨rfl, rfl⟩
        refine iff' ?_
        walk_at "go"
        exact ⟨rfl, rfl⟩
    rintro ρ m ⟨rfl, rfl⟩
    walk_at "go"
    refine wr_ixL isl_d (at_m hsp) ?_
    walk_at "go"
    refine wr_ixL isl_d (at_m hl1) ?_
    walk_at "go"
    refine wr_ixL isl_d (i := 3) (at_i (i := 3) rfl hl2) ?_
    refine wr_mul (.inl ⟨by omega, by omega⟩) ?_
    walk_at "go"
    have ew : (if p.2 - 2 * lk lks i 3 > 0 then p.2 - 2 * lk lks i 3 else 0) = (roomP lks i p).2 := rfl
    rw [ew]
    generalize (roomP lks i p).2 = wd at hrows
    refine ws_for (fun k ρ m => m = [] ∧ ∃ (x10 x11 x12 x13 x14 x15 x16 : Option SV), ρ = [some (.dat (encB ns)), some (.dat (encLk lks)), some (.dat (encUU uus)), some (.dat (encP sp)), some (.dat (encSz zs)), some (.dat (.int (i : Int))), some (.dat (.int (j : Int))), some (.dat (.int H')), some (.dat (.int z.cnt)), some (.dat (.int wd)), x10, x11, x12, x13, x14, x15, x16]) (wi_enum ?_)
    walk_at "go"
    refine wr_ixL isl_d (at_m hz) ?_
    walk_at "go"
    refine ⟨_, rfl, ⟨rfl, _, _, _, _, _, _, _, rfl⟩, ?_, ?_⟩
    · rintro k dd ρ m hd ⟨rfl, x10, x11, x12, x13, x14, x15, x16, rfl⟩
      obtain ⟨x, hx, rfl⟩ := enmD_get hd
      obtain ⟨⟨f, l'⟩, hp', rfl⟩ := map_got hx
      obtain ⟨c1, c2, c3⟩ := hrows k _ hp'
      try simp only at c1 c2 c3
      walk_at "gi"
      refine ws_mid (fun ρ m => m = [] ∧ ρ = [some (.dat (encB ns)), some (.dat (encLk lks)), some (.dat (encUU uus)), some (.dat (encP sp)), some (.dat (encSz zs)), some (.dat (.int (i : Int))), some (.dat (.int (j : Int))), some (.dat (.int H')), some (.dat (.int z.cnt)), some (.dat (.int wd)), some (.dat (.int (k : Int))), some (.dat (.int (f : Int))), some (.dat (.int (l' : Int))), some (.dat (.int (wor wd z.cnt q.2 (k : Int)))), x14, x15, x16]) ?_ ?_
      · walk_at "go"
        refine ifd (fun h => ?_) (fun h => ?_)
        · walk_at "go"
          refine wr_ixL isl_d (at_m hsq) ?_
          walk_at "go"
          have e : (if wd - q.2 > 0 then wd - q.2 else 0) = wor wd z.cnt q.2 (k : Int) := by
            unfold wor
            rw [if_pos h]
            split <;> split <;> omega
          rw [e]
          exact ⟨rfl, rfl⟩
        · walk_at "go"
          have e : wd = wor wd z.cnt q.2 (k : Int) := by
            unfold wor
            rw [if_neg h]
          refine ⟨rfl, ?_⟩
          rw [← e]
      rintro ρ m ⟨rfl, rfl⟩
      walk_at "go"
      refine wr_ixL isl_d (at_m hus) ?_
      walk_at "go"
      refine ⟨_, isl_d, ?_⟩
      rw [cut_mid, ← List.map_drop, ← List.map_take]
      have hsl : ((us.drop f).take (l' - f)).length = l' - f := by rw [List.length_take, List.length_drop]; omega
      walk_at "go"
      refine we_lcM (α := Un) (gin_name (by decide)) (wi_list ?_)
      walk_at "go"
      refine ⟨(us.drop f).take (l' - f), Un.enc, fun u => .int u.w, rfl, by omega, rfl, fun k' u hu => ?_, ?_⟩
      · walk_at "go"
        refine ⟨rfl, ?_⟩
        walk_at "go"
        exact ⟨rfl, rfl⟩
      have em1 : ∀ l : List Un, l.map (fun u => D.int u.w) = (l.map Un.w).map D.int := fun l => by rw [List.map_map]; rfl
      rw [em1]
      walk_at "go"
      refine wc_sum isl_d ?_
      walk_at "go"
      refine we_lcM (α := Un) (gin_name (by decide)) (wi_list ?_)
      walk_at "go"
      refine ⟨_, isl_d, ?_⟩
      rw [cut_init, List.length_map, hsl, ← List.map_take, List.take_take, Nat.min_eq_left (by omega)]
      refine lo ?_
      refine ⟨(us.drop f).take (l' - f - 1), Un.enc, fun u => .int u.b, rfl, by rw [List.length_take, List.length_drop]; omega, rfl, fun k' u hu => ?_, ?_⟩
      · walk_at "go"
        refine ⟨rfl, ?_⟩
        walk_at "go"
        exact ⟨rfl, rfl⟩
      have em2 : ∀ l : List Un, l.map (fun u => D.int u.b) = (l.map Un.b).map D.int := fun l => by rw [List.map_map]; rfl
      rw [em2]
      walk_at "go"
      refine wc_sum isl_d ?_
      walk_at "go"
      refine ifd (fun h => ?_) (fun _ => ?_)
      · walk_at "go"
        refine ifd (fun h2 => ?_) (fun _ => ?_)
        · exfalso
          rcases c3 with y | y
          · have h : wor wd z.cnt q.2 (k : Int) < rowLen us f l' := h
            omega
          · omega
        · walk_at "go"
          exact ⟨rfl, _, _, _, _, _, _, _, rfl⟩
      · walk_at "go"
        exact ⟨rfl, _, _, _, _, _, _, _, rfl⟩
    · rintro ρ m ⟨rfl, x10, x11, x12, x13, x14, x15, x16, rfl⟩
      walk_at "go"
      exact ⟨rfl, _, rfl, rfl⟩
end
end LP
end

section
set_option maxHeartbeats 2000000
/-! LQ: what the sizes and boxes satisfy (no program in sight). -/
namespace LP
open PySem L2
section
variable {ns : List Nd} {lks : List (List Int)} {hg hg' : Nat → Int} {i : Nat}
theorem tbl_congr (e : ∀ k ∈ hold ns i, hg k = hg' k) : ∀ {ks : List Nat}, (∀ k ∈ ks, k ∈ hold ns i) → ∀ st, ks.foldl (tbStep ns lks hg) st = ks.foldl (tbStep ns lks hg') st
  | [], _, _ => rfl
  | k :: r, hk, st => by
    have h1 := hk k List.mem_cons_self
    have es : tbStep ns lks hg st k = tbStep ns lks hg' st k := by
      unfold tbStep
      split
      · rfl
      · cases q : asideOf ns k with
        | none => simp only [e k h1]
        | some a => simp only [e k h1, e a (asideOf_hold h1 q).1]
    rw [List.foldl_cons, List.foldl_cons, es]
    exact tbl_congr e (fun x hx => hk x (List.mem_cons_of_mem _ hx)) _
theorem Tops.congr {n : Nd} {ts : List (Nat × Int)} {tot : Int} (e : ∀ k ∈ hold ns i, hg k = hg' k) (h : Tops ns lks hg i n ts tot) : Tops ns lks hg' i n ts tot := by
  unfold Tops at h ⊢
  split
  · rename_i h1; rw [if_pos h1] at h; exact h
  · rename_i h1
    rw [if_neg h1] at h
    split
    · rename_i h2
      rw [if_pos h2] at h
      obtain ⟨ps, N, a, b, c, d⟩ := h
      have em : (hold ns i).map hg = (hold ns i).map hg' := List.map_congr_left e
      rw [em] at c d
      exact ⟨ps, N, a, b, c, d⟩
    · rename_i h2
      rw [if_neg h2] at h
      split
      · rename_i h3
        rw [if_pos h3] at h
        obtain ⟨a, ⟨k, hk, hk2⟩, c⟩ := h
        exact ⟨a, ⟨k, hk, by rw [← e k hk]; exact hk2⟩, fun k hk => by rw [← e k hk]; exact c k hk⟩
      · rename_i h3
        rw [if_neg h3] at h
        rw [h]
        exact tbl_congr e (fun _ h => h) _
theorem Tops.det {n : Nd} {ts ts' : List (Nat × Int)} {tot tot' : Int} (h : Tops ns lks hg i n ts tot) (h' : Tops ns lks hg i n ts' tot') : ts = ts' ∧ tot = tot' := by
  unfold Tops at h h'
  split at h
  · rename_i h1; rw [if_pos h1] at h'
    exact ⟨h.1.trans h'.1.symm, h.2.trans h'.2.symm⟩
  · rename_i h1
    rw [if_neg h1] at h'
    split at h
    · rename_i h2
      rw [if_pos h2] at h'
      obtain ⟨ps, N, a, b, c, d⟩ := h
      obtain ⟨ps', N', a', b', c', d'⟩ := h'
      have e1 := a.uniq a'
      subst e1
      have e2 := b.uniq b'
      subst e2
      exact ⟨c.trans c'.symm, d.trans d'.symm⟩
    · rename_i h2
      rw [if_neg h2] at h'
      split at h
      · rename_i h3
        rw [if_pos h3] at h'
        obtain ⟨a, ⟨k, hk, hk2⟩, c⟩ := h
        obtain ⟨a', ⟨k', hk', hk2'⟩, c'⟩ := h'
        have := c k' hk'
        have := c' k hk
        exact ⟨a.trans a'.symm, by omega⟩
      · rename_i h3
        rw [if_neg h3] at h'
        have := h.trans h'.symm
        exact ⟨congrArg Prod.fst this, congrArg Prod.snd this⟩
/-! ### grids -/
theorem gh_take (ps : List Plc) (hs : List Int) : ∀ N k, k ≤ N → (ghHighs ps hs N).take k = ghHighs ps hs k
  | 0, k, h => by
    have : k = 0 := by omega
    subst this; rfl
  | N + 1, k, h => by
    by_cases e : k = N + 1
    · subst e
      rw [List.take_of_length_le (by rw [ghHighs_len]; exact Nat.le_refl _)]
    · rw [ghHighs, List.take_append_of_le_length (by rw [ghHighs_len]; omega)]
      exact gh_take ps hs N k (by omega)
theorem ghMost_ge (found : List Int) (row : Nat) : ∀ (zs : List (Plc × Int)) (m : Int), m ≤ zs.foldl (ghStep found row) m ∧ ∀ q ∈ zs, q.1.r + q.1.d = row + 1 → q.2 - (found.drop q.1.r).sum ≤ zs.foldl (ghStep found row) m
  | [], m => ⟨Int.le_refl _, fun q h => by cases h⟩
  | z :: r, m => by
    obtain ⟨h1, h2⟩ := ghMost_ge found row r (ghStep found row m z)
    have h3 : m ≤ ghStep found row m z ∧ (z.1.r + z.1.d = row + 1 → z.2 - (found.drop z.1.r).sum ≤ ghStep found row m z) := by
      unfold ghStep
      split
      · split
        · exact ⟨by omega, fun _ => by omega⟩
        · exact ⟨by omega, fun _ => by omega⟩
      · rename_i hh
        exact ⟨Int.le_refl _, fun z => absurd z hh⟩
    rw [List.foldl_cons]
    refine ⟨by omega, fun q hq e => ?_⟩
    rcases List.mem_cons.mp hq with y | y
    · subst y
      have := h3.2 e
      omega
    · exact h2 q y e
theorem gh_nn (ps : List Plc) (hs : List Int) : ∀ k, ∀ v ∈ ghHighs ps hs k, 0 ≤ v
  | 0, v, h => by cases h
  | k + 1, v, h => by
    rw [ghHighs] at h
    rcases List.mem_append.mp h with z | z
    · exact gh_nn ps hs k v z
    · rw [List.mem_singleton.mp z]
      exact (ghMost_ge _ k _ 0).1
theorem gh_cell {ps : List Plc} {hs : List Int} {N : Nat} {q : Plc × Int} (hq : q ∈ ps.zip hs) (hd : 1 ≤ q.1.d) (hN : q.1.r + q.1.d ≤ N) : ((ghHighs ps hs N).take q.1.r).sum + q.2 ≤ ((ghHighs ps hs N).take (q.1.r + q.1.d)).sum := by
  obtain ⟨row, hrow⟩ : ∃ row, q.1.r + q.1.d = row + 1 := ⟨q.1.r + q.1.d - 1, by omega⟩
  rw [hrow, gh_take _ _ N (row + 1) (by omega), gh_take _ _ N q.1.r (by omega), ghHighs, List.sum_append, List.sum_singleton]
  have h1 := (ghMost_ge (ghHighs ps hs row) row (ps.zip hs) 0).2 q hq hrow
  have h2 : ((ghHighs ps hs row).take q.1.r).sum + ((ghHighs ps hs row).drop q.1.r).sum = (ghHighs ps hs row).sum := by
    rw [← List.sum_append, List.take_append_drop]
  rw [gh_take _ _ row q.1.r (by omega)] at h2
  unfold ghMost
  omega
theorem Pl.pos {cols : Nat} {cells : List (Nat × Nat)} {ps : List Plc} (h : Pl cols cells ps) (hc : 1 ≤ cols) (hce : ∀ q ∈ cells, 1 ≤ q.1 ∧ 1 ≤ q.2) {j : Nat} {p : Plc} (hp : ps[j]? = some p) : 1 ≤ p.d ∧ 1 ≤ p.s := by
  have hl : j < cells.length := by rw [← h.1]; exact (List.getElem?_eq_some_iff.mp hp).1
  obtain ⟨⟨wi, de⟩, hq⟩ : ∃ q, cells[j]? = some q := ⟨_, getI hl⟩
  obtain ⟨r, c, h1, h2⟩ := h.2 j _ _ hq
  rw [hp] at h1
  cases h1
  have := hce _ (List.mem_of_getElem? hq)
  simp only at this ⊢
  omega
theorem Pl.apart {cols : Nat} {cells : List (Nat × Nat)} {ps : List Plc} (h : Pl cols cells ps) (hc : 1 ≤ cols) (hcl : ∀ q ∈ cells, 1 ≤ q.1 ∧ 1 ≤ q.2) {j j' : Nat} {p p' : Plc} (hj : j < j') (hp : ps[j]? = some p) (hp' : ps[j']? = some p') :
    p.r + p.d ≤ p'.r ∨ p'.r + p'.d ≤ p.r ∨ p.c + p.s ≤ p'.c ∨ p'.c + p'.s ≤ p.c := by
  have hl' : j' < cells.length := by rw [← h.1]; exact (List.getElem?_eq_some_iff.mp hp').1
  have q1 := h.pos hc hcl hp
  have q2 := h.pos hc hcl hp'
  obtain ⟨⟨wi, de⟩, hce⟩ : ∃ q, cells[j']? = some q := ⟨_, getI hl'⟩
  obtain ⟨r, c, h1, h2⟩ := h.2 j' _ _ hce
  rw [hp'] at h1
  cases h1
  simp only at q2 ⊢
  rcases Nat.lt_or_ge r (p.r + p.d) with a | a
  · rcases Nat.lt_or_ge p.r (r + de) with b | b
    · rcases Nat.lt_or_ge c (p.c + p.s) with d | d
      · rcases Nat.lt_or_ge p.c (c + min wi cols) with e | e
        · exfalso
          have hf := h2.free (max r p.r - r) (max c p.c - c) (by omega) (by omega)
          rw [show r + (max r p.r - r) = max r p.r by omega, show c + (max c p.c - c) = max c p.c by omega] at hf
          have hm : p ∈ ps.take j' := List.mem_of_getElem? (by rw [List.getElem?_take_of_lt hj]; exact hp)
          have : tkOf (ps.take j') (max r p.r) (max c p.c) = true := by
            unfold tkOf
            rw [List.any_eq_true]
            refine ⟨p, hm, ?_⟩
            unfold Plc.has
            apply decide_eq_true
            omega
          rw [this] at hf; cases hf
        · right; right; right; exact e
      · right; right; left; exact d
    · right; left; exact b
  · left; exact a
/-! ### columns -/
def ColR (ns : List Nd) (hg : Nat → Int) (q q' : Nat × Int) : Prop := asideOf ns q'.1 = some q.1 ∨ q.2 + hg q.1 ≤ q'.2
theorem tbl_ok (hnn : ∀ k ∈ hold ns i, 0 ≤ hg k) (hab : ∀ k ∈ hold ns i, 0 ≤ lk lks k 2) : ∀ {ks : List Nat}, (∀ k ∈ ks, k ∈ hold ns i) → ∀ st : List (Nat × Int) × Int, 0 ≤ st.2 → (∀ q ∈ st.1, 0 ≤ q.2 ∧ q.2 + hg q.1 ≤ st.2) → st.1.Pairwise (ColR ns hg) →
    0 ≤ (ks.foldl (tbStep ns lks hg) st).2 ∧ (∀ q ∈ (ks.foldl (tbStep ns lks hg) st).1, 0 ≤ q.2 ∧ q.2 + hg q.1 ≤ (ks.foldl (tbStep ns lks hg) st).2) ∧ (ks.foldl (tbStep ns lks hg) st).1.Pairwise (ColR ns hg)
  | [], _, st, h1, h2, h3 => ⟨h1, h2, h3⟩
  | k :: r, hk, st, h1, h2, h3 => by
    rw [List.foldl_cons]
    have hkm := hk k List.mem_cons_self
    have k0 := hnn k hkm
    have k1 := hab k hkm
    have step : 0 ≤ (tbStep ns lks hg st k).2 ∧ (∀ q ∈ (tbStep ns lks hg st k).1, 0 ≤ q.2 ∧ q.2 + hg q.1 ≤ (tbStep ns lks hg st k).2) ∧ (tbStep ns lks hg st k).1.Pairwise (ColR ns hg) := by
      unfold tbStep
      split
      · exact ⟨h1, h2, h3⟩
      · obtain ⟨top, htop, ht1⟩ : ∃ top, (if st.1 = [] then st.2 else st.2 + lk lks k 2) = top ∧ st.2 ≤ top := ⟨_, rfl, by split <;> omega⟩
        simp only [htop]
        cases q : asideOf ns k with
        | none =>
          simp only
          refine ⟨by omega, fun y hy => ?_, ?_⟩
          · rcases List.mem_append.mp hy with z | z
            · have := h2 y z
              omega
            · rw [List.mem_singleton.mp z]; simp only; omega
          · rw [List.pairwise_append]
            refine ⟨h3, List.pairwise_singleton _ _, fun a ha b hb => ?_⟩
            rw [List.mem_singleton.mp hb]
            have := h2 a ha
            exact .inr (by simp only; omega)
        | some a =>
          have a0 := hnn a (asideOf_hold hkm q).1
          simp only
          refine ⟨by unfold imax; split <;> omega, fun y hy => ?_, ?_⟩
          · rcases List.mem_append.mp hy with z | z
            · have := h2 y z
              unfold imax
              split <;> omega
            · unfold imax
              rcases List.mem_cons.mp z with z | z
              · rw [z]; simp only; split <;> omega
              · rw [List.mem_singleton.mp z]; simp only; split <;> omega
          · rw [List.pairwise_append]
            refine ⟨h3, ?_, fun b hb c hc => ?_⟩
            · rw [List.pairwise_cons]
              refine ⟨fun c hc => ?_, List.pairwise_singleton _ _⟩
              rw [List.mem_singleton.mp hc]
              exact .inl q
            · have := h2 b hb
              rcases List.mem_cons.mp hc with z | z
              · rw [z]; exact .inr (by simp only; omega)
              · rw [List.mem_singleton.mp z]; exact .inr (by simp only; omega)
    exact tbl_ok hnn hab (fun x hx => hk x (List.mem_cons_of_mem _ hx)) _ step.1 step.2.1 step.2.2
/-- what a node holds lies within it -/
theorem Tops.inn {n : Nd} {ts : List (Nat × Int)} {tot : Int} (hdp : ∀ k ∈ hold ns i, 1 ≤ lk lks k 9) (hnn : ∀ k ∈ hold ns i, 0 ≤ hg k) (hab : ∀ k ∈ hold ns i, 0 ≤ lk lks k 2) (h : Tops ns lks hg i n ts tot) : 0 ≤ tot ∧ ∀ q ∈ ts, 0 ≤ q.2 ∧ q.2 + hg q.1 ≤ tot := by
  unfold Tops at h
  split at h
  · obtain ⟨rfl, rfl⟩ := h
    exact ⟨Int.le_refl _, fun q h => by cases h⟩
  · split at h
    · obtain ⟨ps, N, a, b, rfl, rfl⟩ := h
      have g0 := gh_nn ps ((hold ns i).map hg) N
      refine ⟨sum_nn g0, fun q hq => ?_⟩
      obtain ⟨⟨k, p⟩, hkp, rfl⟩ := List.mem_map.mp hq
      simp only
      have t0 := sum_nn (ns := (ghHighs ps ((hold ns i).map hg) N).take p.r) fun v hv => g0 v (List.mem_of_mem_take hv)
      refine ⟨t0, ?_⟩
      obtain ⟨j, hj⟩ := List.getElem?_of_mem hkp
      obtain ⟨hk, hp⟩ := List.getElem?_zip_eq_some.mp hj
      have hpm := List.mem_of_getElem? hp
      have hkm := List.mem_of_getElem? hk
      have hz : (p, hg k) ∈ ps.zip ((hold ns i).map hg) := List.mem_of_getElem? (List.getElem?_zip_eq_some.mpr ⟨hp, by rw [List.getElem?_map]; simp only at hk; rw [hk]; rfl⟩)
      have hdd : 1 ≤ p.d := by
        obtain ⟨r, c, e1, _⟩ := a.2 j _ _ (show (cellsOf lks (hold ns i))[j]? = some _ by unfold cellsOf; rw [List.getElem?_map]; simp only at hk; rw [hk]; rfl)
        simp only at hp
        rw [hp] at e1
        cases e1
        have := hdp k hkm
        simp only; omega
      have hN := b.1 p hpm
      have h5 := gh_cell hz hdd hN
      simp only at h5
      have h6 := take_mono g0 hN
      rw [List.take_of_length_le (show (ghHighs ps ((hold ns i).map hg) N).length ≤ N by rw [ghHighs_len]; exact Nat.le_refl _)] at h6
      omega
    · split at h
      · obtain ⟨rfl, ⟨k, hk, hk2⟩, c⟩ := h
        refine ⟨by have := hnn k hk; omega, fun q hq => ?_⟩
        obtain ⟨k', hk', rfl⟩ := List.mem_map.mp hq
        have := c k' hk'
        exact ⟨Int.le_refl _, by simp only; omega⟩
      · obtain ⟨a, b, _⟩ := tbl_ok (hg := hg) (lks := lks) hnn hab (fun _ h => h) ([], 0) (Int.le_refl _) (fun q h => by cases h) .nil
        have e : (ts, tot) = (hold ns i).foldl (tbStep ns lks hg) ([], 0) := h
        rw [← e] at a b
        exact ⟨a, b⟩
end
end LP
end

section
set_option maxHeartbeats 2000000
/-! LQ2: all boxes lie as the law wants. -/
namespace LP
open PySem L2
structure All (x : Made) (zs : List Sz) (tf : Nat → Int) : Prop where
  made : MadeOk x
  len : zs.length = x.ns.length
  sz : ∀ (j : Nat) z, zs[j]? = some z → SzOk x.ns x.lks x.uus x.sp (fun k => zs[k]?) j z
  tf : ∀ (j : Nat) n, j < x.ns.length → x.ns[j]? = some n → n.kd.cont = true → ∃ hg ts tot, HgOk (fun k => zs[k]?) (hold x.ns j) hg ∧ Tops x.ns x.lks hg j n ts tot ∧ ∀ q ∈ ts, tf q.1 = tf j + q.2
theorem hOf_of {zs : List Sz} {k : Nat} {z : Sz} (h : zs[k]? = some z) : hOf zs k = z.h := by unfold hOf; rw [h]; rfl
theorem hg_hOf {zs : List Sz} {ks : List Nat} {hg : Nat → Int} (h : HgOk (fun k => zs[k]?) ks hg) : ∀ k ∈ ks, hg k = hOf zs k := fun k hk => by
  obtain ⟨z, h1, h2⟩ := h k hk
  rw [h2, hOf_of h1]
section
variable {x : Made} {zs : List Sz} {tf : Nat → Int}
theorem All.kids (A : All x zs tf) {j : Nat} : ∀ k ∈ hold x.ns j, k < x.ns.length ∧ 1 ≤ lk x.lks k 9 ∧ 0 ≤ lk x.lks k 2 := fun k hk => by
  have h := (mem_hold.mp hk).1
  have hL := A.made.2.2.1
  exact ⟨h, (hL.deep k h).1, (hL.above k h).1⟩
/-- the tops of what hangs in a node -/
theorem All.node (A : All x zs tf) {j : Nat} {n : Nd} (hn : x.ns[j]? = some n) (hc : n.kd.cont = true) : ∃ ts, Tops x.ns x.lks (hOf zs) j n ts (hOf zs j) ∧ ts.map Prod.fst = hold x.ns j ∧ ∀ q ∈ ts, tf q.1 = tf j + q.2 := by
  have hj := (List.getElem?_eq_some_iff.mp hn).1
  obtain ⟨hg, ts, tot, h1, h2, h3⟩ := A.tf j n hj hn hc
  have hz := getI (xs := zs) (i := j) (by rw [A.len]; exact hj)
  obtain ⟨hg', ts', g1, g2⟩ := (A.sz j _ hz n hn).2.2 hc
  have a := h2.congr (hg_hOf h1)
  have b := g2.congr (hg_hOf g1)
  obtain ⟨rfl, rfl⟩ := a.det b
  exact ⟨ts, by rw [hOf_of hz]; exact a, tops_nodes A.made.1 hc a, h3⟩
theorem All.nn (A : All x zs tf) : ∀ d k, x.ns.length - k ≤ d → k < x.ns.length → 0 ≤ hOf zs k := by
  intro d
  induction d with
  | zero => intro k h1 h2; omega
  | succ d ih =>
    intro k h1 h2
    have hn := getI h2
    have hz := getI (xs := zs) (i := k) (by rw [A.len]; exact h2)
    obtain ⟨g1, g2, g3⟩ := A.sz k _ hz _ hn
    by_cases hw : (x.ns[k]).kd.wu = true
    · rw [hOf_of hz]; exact (g1 hw).1
    · by_cases hp : (x.ns[k]).kd = .picture
      · obtain ⟨a, h3⟩ := g2 hp
        obtain ⟨a', b', h4, h5, h6, h7, h8⟩ := A.made.1.pic k _ hn hp
        rw [h3] at h4
        injection h4 with h4
        injection h4 with h4 h9
        injection h9 with h9
        injection h9 with h9
        rw [hOf_of hz]; omega
      · have hc := kd_not (by simpa using hw) hp
        obtain ⟨ts, t1, _, _⟩ := A.node hn hc
        refine (t1.inn (fun k' hk' => (A.kids k' hk').2.1) (fun k' hk' => ?_) (fun k' hk' => (A.kids k' hk').2.2)).1
        have := (mem_hold.mp hk').2.1
        exact ih k' (by omega) (A.kids k' hk').1
theorem All.nonneg (A : All x zs tf) {k : Nat} (h : k < x.ns.length) : 0 ≤ hOf zs k := A.nn _ k (Nat.le_refl _) h
/-- a node that is no note hangs in a container -/
theorem All.elder (A : All x zs tf) {k : Nat} {n : Nd} (h0 : 0 < k) (hn : x.ns[k]? = some n) (hk : n.kd ≠ .note) : ∃ (e : Nat) (m : Nd), n.el = (e : Int) ∧ e < k ∧ x.ns[e]? = some m ∧ m.kd.cont = true ∧ k ∈ hold x.ns e := by
  obtain ⟨e, m, h1, h2, h3, _, _, h6, h7, h8, _⟩ := A.made.1.eld k n h0 hn
  refine ⟨e, m, h1, h2, h3, ?_, mem_hold2.mpr ⟨h2, n, hn, h1⟩⟩
  cases q : m.kd <;> first | rfl | (exact absurd q h6) | (exact absurd q h7) | (exact absurd (h8.mpr (.inl q)) hk) | (exact absurd (h8.mpr (.inr q)) hk)
/-- the spans of what hangs in a node -/
theorem All.span (A : All x zs tf) {e : Nat} (he : e < x.ns.length) : ∃ p xs, x.sp[e]? = some p ∧ HS x.ns x.lks e p xs ∧ ∀ (j k : Nat), (hold x.ns e)[j]? = some k → x.sp[k]? = xs[j]? := A.made.2.2.2.2.2 e he
@[reducible] def bx (x : Made) (zs : List Sz) (tf : Nat → Int) (k : Nat) : Bx := bxOf x.ns x.sp zs tf k
theorem bx_l {k : Nat} {p : Int × Int} (h : x.sp[k]? = some p) : (bx x zs tf k).l = p.1 := by show (x.sp.getD k (0, 0)).1 = p.1; rw [getD_of h]
theorem All.within (A : All x zs tf) {k : Nat} {n : Nd} (h0 : 0 < k) (hn : x.ns[k]? = some n) (hk : n.kd ≠ .note) : ∃ e : Nat, n.el = (e : Int) ∧ e < x.ns.length ∧ LP.within ⟨x.ns, x.lks, fun _ => none, 0, k, e, bx x zs tf k, bx x zs tf e⟩ := by
  obtain ⟨e, m, h1, h2, h3, hc, hkm⟩ := A.elder h0 hn hk
  have he := (List.getElem?_eq_some_iff.mp h3).1
  refine ⟨e, h1, he, ?_⟩
  obtain ⟨ts, t1, t2, t3⟩ := A.node h3 hc
  obtain ⟨_, i2⟩ := t1.inn (fun k' hk' => (A.kids k' hk').2.1) (fun k' hk' => A.nonneg (A.kids k' hk').1) (fun k' hk' => (A.kids k' hk').2.2)
  rw [← t2] at hkm
  obtain ⟨q, hq, rfl⟩ := List.mem_map.mp hkm
  obtain ⟨g1, g2⟩ := i2 q hq
  have g3 := t3 q hq
  obtain ⟨p, xs, s1, s2, s3⟩ := A.span he
  rw [t2] at hkm
  obtain ⟨j, hj⟩ := List.getElem?_of_mem hkm
  have s4 := s3 j _ hj
  have hjx : j < xs.length := by rw [s2.1]; exact (List.getElem?_eq_some_iff.mp hj).1
  have hx := getI hjx
  rw [hx] at s4
  have s5 := (s2.2.2 m h3 hc).1 _ (List.mem_of_getElem? hx)
  refine ⟨?_, ?_, ?_⟩
  · show tf e ≤ tf q.1
    omega
  · show tf q.1 + hOf zs q.1 ≤ tf e + hOf zs e
    omega
  · rw [bx_l s1, bx_l s4]; exact s5
theorem not_meets_v {a b : Bx} (h : a.t + a.h ≤ b.t ∨ b.t + b.h ≤ a.t) : ¬ meets a b := fun m => m.1 h
theorem All.apart (A : All x zs tf) {e k k' : Nat} {m : Nd} (hm : x.ns[e]? = some m) (hc : m.kd.cont = true) (hk : k ∈ hold x.ns e) (hk' : k' ∈ hold x.ns e) (hlt : k < k') {p p' : Int × Int} (hp : x.sp[k]? = some p) (hp' : x.sp[k']? = some p') :
    asideOf x.ns k' = some k ∨ p.2 < (bx x zs tf k).w ∨ p'.2 < (bx x zs tf k').w ∨ ¬ meets (bx x zs tf k) (bx x zs tf k') := by
  have he := (List.getElem?_eq_some_iff.mp hm).1
  obtain ⟨ts, t1, t2, t3⟩ := A.node hm hc
  obtain ⟨j, hj⟩ := List.getElem?_of_mem hk
  obtain ⟨j', hj'⟩ := List.getElem?_of_mem hk'
  have hjj : j < j' := by
    obtain ⟨q1, q2⟩ := List.getElem?_eq_some_iff.mp hj
    obtain ⟨q3, q4⟩ := List.getElem?_eq_some_iff.mp hj'
    rcases Nat.lt_trichotomy j j' with z | z | z
    · exact z
    · subst z; rw [hj] at hj'; cases hj'; omega
    · have := List.pairwise_iff_getElem.mp (hold_sorted x.ns e) j' j q3 q1 z
      rw [q2, q4] at this; omega
  have hnn : ∀ k' ∈ hold x.ns e, 0 ≤ hOf zs k' := fun k' hk' => A.nonneg (A.kids k' hk').1
  have hab : ∀ k' ∈ hold x.ns e, 0 ≤ lk x.lks k' 2 := fun k' hk' => (A.kids k' hk').2.2
  have hL := A.made.2.2.1
  obtain ⟨pe, xs, s1, s2, s3⟩ := A.span he
  have hxj : xs[j]? = some p := by rw [← s3 j k hj, hp]
  have hxj' : xs[j']? = some p' := by rw [← s3 j' k' hj', hp']
  have q0 : ∃ t, ts[j]? = some (k, t) := by
    have h : (ts.map Prod.fst)[j]? = some k := by rw [t2]; exact hj
    obtain ⟨q, h1, h2⟩ := map_got h
    exact ⟨q.2, by rw [h1, h2]⟩
  have q0' : ∃ t, ts[j']? = some (k', t) := by
    have h : (ts.map Prod.fst)[j']? = some k' := by rw [t2]; exact hj'
    obtain ⟨q, h1, h2⟩ := map_got h
    exact ⟨q.2, by rw [h1, h2]⟩
  obtain ⟨t, ht⟩ := q0
  obtain ⟨t', ht'⟩ := q0'
  have f1 := t3 _ (List.mem_of_getElem? ht)
  have f2 := t3 _ (List.mem_of_getElem? ht')
  simp only at f1 f2
  -- what lies over one another
  have vert : t + hOf zs k ≤ t' ∨ t' + hOf zs k' ≤ t → ¬ meets (bx x zs tf k) (bx x zs tf k') := fun h => not_meets_v (by
    show tf k + hOf zs k ≤ tf k' ∨ tf k' + hOf zs k' ≤ tf k
    omega)
  -- what lies beside one another
  have hor : p.1 + p.2 ≤ p'.1 ∨ p'.1 + p'.2 ≤ p.1 → p.2 < (bx x zs tf k).w ∨ p'.2 < (bx x zs tf k').w ∨ ¬ meets (bx x zs tf k) (bx x zs tf k') := fun h => by
    by_cases a : p.2 < (bx x zs tf k).w
    · exact .inl a
    · by_cases b : p'.2 < (bx x zs tf k').w
      · exact .inr (.inl b)
      · refine .inr (.inr fun hme => ?_)
        have m1 := hme.2.1
        have m2 := hme.2.2
        rw [bx_l hp, bx_l hp'] at m1 m2
        omega
  have hcf : ¬ m.kd.cont = false := by rw [hc]; decide
  unfold Tops at t1
  rw [if_neg hcf] at t1
  by_cases hgr : m.kd = .grid
  · rw [if_pos hgr] at t1
    obtain ⟨ps, N, a, b, c, d⟩ := t1
    obtain ⟨ps2, W, w1, w2, w3, w4, w5⟩ := (s2.2.2 m hm hc).2.2 hgr
    have hpe := w1.uniq a
    subst hpe
    have hcol := hL.columns e he
    have hcl : ∀ q ∈ cellsOf x.lks (hold x.ns e), 1 ≤ q.1 ∧ 1 ≤ q.2 := fun q hq => by
      obtain ⟨k0, hk0, rfl⟩ := List.mem_map.mp hq
      have h1 := hL.span k0 (A.kids k0 hk0).1
      have h2 := hL.deep k0 (A.kids k0 hk0).1
      exact ⟨by simp only; omega, by simp only; omega⟩
    have hpl : ps2.length = (hold x.ns e).length := by rw [a.1]; unfold cellsOf; simp
    have g1 := getI (xs := ps2) (i := j) (by rw [hpl]; exact (List.getElem?_eq_some_iff.mp hj).1)
    have g2 := getI (xs := ps2) (i := j') (by rw [hpl]; exact (List.getElem?_eq_some_iff.mp hj').1)
    generalize ps2[j]'(by rw [hpl]; exact (List.getElem?_eq_some_iff.mp hj).1) = pl at g1
    generalize ps2[j']'(by rw [hpl]; exact (List.getElem?_eq_some_iff.mp hj').1) = pl' at g2
    have hw := w5 j pl g1
    have hw' := w5 j' pl' g2
    rw [hxj] at hw
    rw [hxj'] at hw'
    have hw := Option.some.inj hw
    have hw' := Option.some.inj hw'
    -- the tops
    have z1 : ((hold x.ns e).zip ps2)[j]? = some (k, pl) := List.getElem?_zip_eq_some.mpr ⟨hj, g1⟩
    have z2 : ((hold x.ns e).zip ps2)[j']? = some (k', pl') := List.getElem?_zip_eq_some.mpr ⟨hj', g2⟩
    have y1 : t = ((ghHighs ps2 ((hold x.ns e).map (hOf zs)) N).take pl.r).sum := by
      rw [c, List.getElem?_map, z1] at ht
      injection ht with ht
      injection ht with _ ht
      exact ht.symm
    have y2 : t' = ((ghHighs ps2 ((hold x.ns e).map (hOf zs)) N).take pl'.r).sum := by
      rw [c, List.getElem?_map, z2] at ht'
      injection ht' with ht'
      injection ht' with _ ht'
      exact ht'.symm
    have zz1 : (pl, hOf zs k) ∈ ps2.zip ((hold x.ns e).map (hOf zs)) := List.mem_of_getElem? (List.getElem?_zip_eq_some.mpr ⟨g1, by rw [List.getElem?_map, hj]; rfl⟩)
    have zz2 : (pl', hOf zs k') ∈ ps2.zip ((hold x.ns e).map (hOf zs)) := List.mem_of_getElem? (List.getElem?_zip_eq_some.mpr ⟨g2, by rw [List.getElem?_map, hj']; rfl⟩)
    have d1 := (a.pos (by omega) hcl g1).1
    have d2 := (a.pos (by omega) hcl g2).1
    have c1 := gh_cell zz1 d1 (b.1 pl (List.mem_of_getElem? g1))
    have c2 := gh_cell zz2 d2 (b.1 pl' (List.mem_of_getElem? g2))
    have g0 := gh_nn ps2 ((hold x.ns e).map (hOf zs)) N
    simp only at c1 c2
    rcases a.apart (by omega) hcl hjj g1 g2 with r | r | r | r
    · have := take_mono g0 r
      exact .inr (.inr (.inr (vert (.inl (by omega)))))
    · have := take_mono g0 r
      exact .inr (.inr (.inr (vert (.inr (by omega)))))
    · have := w2 _ _ r
      refine .inr (hor (.inl ?_))
      rw [hw, hw']
      simp only
      omega
    · have := w2 _ _ r
      refine .inr (hor (.inr ?_))
      rw [hw, hw']
      simp only
      omega
  · rw [if_neg hgr] at t1
    by_cases hsh : m.kd = .shelf
    · obtain ⟨_, b2⟩ := (s2.2.2 m hm hc).2.1 hsh
      exact .inr (hor (.inl (b2 j j' p p' hjj hxj hxj')))
    · rw [if_neg hsh] at t1
      obtain ⟨_, _, b⟩ := tbl_ok (hg := hOf zs) (lks := x.lks) hnn hab (fun _ h => h) ([], 0) (Int.le_refl _) (fun q h => by cases h) .nil
      have ee : (ts, hOf zs e) = (hold x.ns e).foldl (tbStep x.ns x.lks (hOf zs)) ([], 0) := t1
      rw [← ee] at b
      obtain ⟨v1, v2⟩ := List.getElem?_eq_some_iff.mp ht
      obtain ⟨v3, v4⟩ := List.getElem?_eq_some_iff.mp ht'
      have := List.pairwise_iff_getElem.mp b j j' v1 v3 hjj
      rw [v2, v4] at this
      rcases this with z | z
      · exact .inl z
      · exact .inr (.inr (.inr (vert (.inl z))))
end
end LP
end

section
set_option maxHeartbeats 4000000
/-! L7: the law. -/
namespace LP
open PySem PySem.Spec PyProof.Rows L2
theorem nnr_ltD (ns : List Nd) : fltD ns.length (fun k => decide (kdAt ns k ≠ some .note)) (fun k => .int (k : Int)) = ((nnr ns 0 ns.length).map fun (k : Nat) => (k : Int)).map D.int := by
  unfold fltD nnr
  rw [List.map_map, Nat.sub_zero, ← List.range_eq_range']; rfl
theorem nnr_mem2 {ns : List Nd} {a b k : Nat} : k ∈ nnr ns a b ↔ (a ≤ k ∧ k < b) ∧ kdAt ns k ≠ some .note := by
  unfold nnr
  rw [List.mem_filter, List.mem_range'_1]
  constructor
  · rintro ⟨h1, h2⟩
    exact ⟨by omega, of_decide_eq_true h2⟩
  · rintro ⟨h1, h2⟩
    exact ⟨by omega, decide_eq_true h2⟩
theorem held_mem {ns : List Nd} {e k : Nat} (h : k ∈ heldN ns e) : k < ns.length ∧ (ns.map Nd.el)[k]? = some (e : Int) ∧ kdAt ns k ≠ some .note := by
  unfold heldN at h
  obtain ⟨h1, h2⟩ := List.mem_filter.mp h
  rw [Bool.and_eq_true] at h2
  exact ⟨List.mem_range.mp h1, of_decide_eq_true h2.1, of_decide_eq_true h2.2⟩
section
variable {P : Program} {w : World} {K : PySem.W.Frag} {mg : Str → Option Value} {base : Heap}
theorem fn_ok {γ : Type} {S : Spec γ} {x : Str} {st : Stmt} {N ps : List Str} {f : Addr} {fd : FuncData} {k : Nat} (F : Fun K x x st f fd) (C : FnScope N ps (defScope st)) (len : ∀ y, (S.args y).length = ps.length)
    (hbody : ∀ (f : Addr) (cdv : Value) (A : Around) (outer : List Env) (s : Shared) (H : Hp) (E : XK), Room k (A.deeper (envOfC x (defScope st) s.heap.objs.size f cdv)) →
      ∃ t, PSs (cxOf CX0 P w K mg base N x (defScope st) f cdv A outer s H E).nox (defBody st) t ∧
        ∀ y, S.pre y → WS K (S.mu y).length t (startR N (S.args y)) (S.mu y) { nx := fun _ mu => S.post y (.dat .non) (mu.take (S.mu y).length), rt := fun s mu => S.post y s mu }) : FnOk P w K mg base CX0 (k + 1) f fd ps (spG K S) :=
  fun_ok F C len fun cdv A outer s H E hr => hbody f cdv A outer s H E hr
theorem ok_law (T : Top K mg) {f : Addr} {fd : FuncData} (FL : Fun K "law" "law" s_law f fd) : FnOk P w K mg base CX0 15 f fd ["_law_script"] (spG K S_law.S) := by
  have h__law_made := ok__law_made (P := P) (w := w) (K := K) (base := base) T
  have h_all_sizes := ok_all_sizes (P := P) (w := w) (K := K) (base := base) T
  have h__law_take := ok__law_take (P := P) (w := w) (K := K) (base := base) T
  have h__law_stream := ok__law_stream (P := P) (w := w) (K := K) (base := base) T
  have h_insides := ok_insides (P := P) (w := w) (K := K) (base := base) T
  have h__law_within := ok__law_within (P := P) (w := w) (K := K) (base := base) T
  have h__law_held := ok__law_held (P := P) (w := w) (K := K) (base := base) T
  have h__law_apart := ok__law_apart (P := P) (w := w) (K := K) (base := base) T
  have h__law_rows_beside := ok__law_rows_beside (P := P) (w := w) (K := K) (base := base) T
  refine fn_ok FL sc_law (fun _ => rfl) (fun f cdv A outer s H E hr => ⟨_, (pss_cons (ps_asg (pe_has h__law_made hr (by omega) (by rfl) (pa_cons (pv 0) pa_nil)) (pg_unlK (K := K) rfl rfl (pgs_cons (pg_name (i := 1) sc_law.nd rfl (.inr rfl)) (pgs_cons (pg_name (i := 2) sc_law.nd rfl (.inl rfl)) (pgs_cons (pg_name (i := 3) sc_law.nd rfl (.inl rfl)) (pgs_cons (pg_name (i := 4) sc_law.nd rfl (.inl rfl)) pgs_nil))))))
      (pss_cons (ps_set (i := 5) sc_law.nd rfl (.inl rfl) (pe_has h_all_sizes hr (by omega) (by rfl) (pa_cons (pv 1) (pa_cons (pv 2) (pa_cons (pv 3) (pa_cons (pv 4) pa_nil))))))
      (pss_cons (ps_set (i := 6) sc_law.nd rfl (.inl rfl) (pe_has h__law_take hr (by omega) (by rfl) (pa_cons (pe_has h__law_stream hr (by omega) (by rfl) (pa_cons (pv 0) (pa_cons pe_int pa_nil))) (pa_cons pe_int pa_nil))))
      (pss_cons (ps_set (i := 7) sc_law.nd rfl (.inl rfl) (pe_has h_insides hr (by omega) (by rfl) (pa_cons (pv 1) (pa_cons (pv 2) (pa_cons (pv 4) (pa_cons (pv 5) (pa_cons pe_int (pa_cons (pv 6) pa_nil))))))))
      (pss_cons (ps_set (i := 8) sc_law.nd rfl (.inl rfl) pe_dnewK)
      (pss_cons (ps_for PassesOwn.never rfl (pi_listK (K := K) rfl (pv 7)) (pg_name (i := 9) sc_law.nd rfl (.inl rfl)) (pss_one (ps_dput (hu_of hr) (pv 8) (pe_ix (ix_tupK (K := K) rfl) (pv 9) pe_int (fun _ _ => rfl)) (pv 9) (by rfl))))
      (pss_cons (ps_setLc (i := 11) (own := [("_law_node", 10)]) (g := (gName 10)) rfl sc_law.nd rfl rfl (sw_true rfl rfl rfl (by decide +kernel)) (pi_range1 (by rfl) T.b_range (pa_cons (pe_callB (call_lenK (K := K) rfl) (by rfl) T.b_len bt_len (pa_cons (pv 1) pa_nil)) pa_nil)) (blkOk_by (N := N_law) (sc := defScope s_law) (by decide +kernel)) (fun _ _ _ _ _ => (pg_name (i := 10) sc_law.nd rfl (.inl rfl))) (fun _ _ _ _ _ => (pts_one (pt_cmpR op_ne (pe_ix (ix_tupK (K := K) rfl) (pe_ix (ix_listK (K := K) rfl) (pv 1) (pv 10) (fun _ _ => rfl)) pe_int (fun _ _ => rfl)) pe_str (nomark _)))) (fun _ _ _ _ _ => (pv 10)))
      (pss_cons (ps_if (PW.pt (pw_or (pt_cmpR (op_neDK (K := K) rfl hr.units) (pe_lc (own := [("_law_box", 9)]) (g := (gName 9)) (tt := tYes) rfl sc_law.nd (pi_listK (K := K) rfl (pv 7)) (blkOk_by (N := N_law) (sc := defScope s_law) (by decide +kernel)) (fun _ _ _ _ _ => (pg_name (i := 9) sc_law.nd rfl (.inl rfl))) (fun _ _ _ _ _ => pts_nil) (fun _ _ _ _ _ => (pe_ix (ix_tupK (K := K) rfl) (pv 9) pe_int (fun _ _ => rfl)))) (pv 11) (nomark _)) (pw_or1 (pt_cmpR op_ne (pe_ix (ix_tupK (K := K) rfl) (pe_ix (ix_listK (K := K) rfl) (pv 7) pe_int (fun _ _ => rfl)) pe_int (fun _ _ => rfl)) (pv 6) (nomark _))))) (pss_one (ps_ret pe_bl)) pss_nil)
      (pss_cons (ps_for PassesOwn.never rfl (pi_listK (K := K) rfl (pe_slice (sl_listK (K := K) rfl) (pv 11) (po_some pe_int) po_none)) (pg_name (i := 10) sc_law.nd rfl (.inr rfl)) (pss_cons (ps_if (pt_not (pt_val (pe_has h__law_within hr (by omega) (by rfl) (pa_cons (pv 1) (pa_cons (pv 2) (pa_cons (pv 8) (pa_cons (pv 10) pa_nil))))))) (pss_one (ps_ret pe_bl)) pss_nil)
      (pss_cons (ps_set (i := 12) sc_law.nd rfl (.inl rfl) (pe_has h__law_held hr (by omega) (by rfl) (pa_cons (pv 1) (pa_cons (pe_ix (ix_tupK (K := K) rfl) (pe_ix (ix_listK (K := K) rfl) (pv 1) (pv 10) (fun _ _ => rfl)) pe_int (fun _ _ => rfl)) pa_nil))))
      (pss_cons (ps_for PassesOwn.never rfl (pi_listK (K := K) rfl (pe_lc (own := [("_law_one", 14)]) (g := (gName 14)) rfl sc_law.nd (pi_listK (K := K) rfl (pv 12)) (blkOk_by (N := N_law) (sc := defScope s_law) (by decide +kernel)) (fun _ _ _ _ _ => (pg_name (i := 14) sc_law.nd rfl (.inl rfl))) (fun _ _ _ _ _ => (pts_one (pt_cmpR op_gt (pv 14) (pv 10) (nomark _)))) (fun _ _ _ _ _ => (pv 14)))) (pg_name (i := 13) sc_law.nd rfl (.inl rfl)) (pss_one (ps_if (pt_not (pt_val (pe_has h__law_apart hr (by omega) (by rfl) (pa_cons (pv 1) (pa_cons (pv 4) (pa_cons (pv 8) (pa_cons (pv 10) (pa_cons (pv 13) pa_nil)))))))) (pss_one (ps_ret pe_bl)) pss_nil)))
      (pss_one (ps_if (pt_cmpR op_eq (pe_ix (ix_tupK (K := K) rfl) (pe_ix (ix_listK (K := K) rfl) (pv 1) (pv 10) (fun _ _ => rfl)) pe_int (fun _ _ => rfl)) pe_str (nomark _)) (pss_one (ps_if (pt_not (pt_val (pe_has h__law_rows_beside hr (by omega) (by rfl) (pa_cons (pv 1) (pa_cons (pv 2) (pa_cons (pv 3) (pa_cons (pv 4) (pa_cons (pv 5) (pa_cons (pv 10) pa_nil))))))))) (pss_one (ps_ret pe_bl)) pss_nil)) pss_nil))))))
      (pss_one (ps_ret pe_bl))))))))))), ?_⟩)
  rintro script hp
  simp only [cxOf, Cx.nox, Cx.wish, Cx.blk, S_law, N_law, startR, PSpec.S_args, PSpec.S_mu, PSpec.S_pre, PSpec.S_post, List.map_cons, List.map_nil, List.length_cons, List.length_nil, Nat.reduceAdd, Nat.reduceSub, List.replicate_succ, List.replicate_zero, List.cons_append, List.nil_append, List.append_nil] at hp ⊢
/- 0:_law_script, 1:_law_book_here, 2:_law_looks_here, 3:_law_units, 4:_law_spans, 5:_law_sizes, 6:_law_top, 7:_law_found, 8:_law_boxes, 9:_law_box, 10:_law_node, 11:_law_nodes, 12:_law_some, 13:_law_other, 14:_law_one -/
  walk_at "go"
  refine ⟨script, rfl, trivial, fun d hd => ?_⟩
  obtain ⟨x, rfl, hM⟩ := hd
  obtain ⟨hb, hO, hL, hU, hsw, hsp⟩ := id hM
  obtain ⟨ns, lks, uus, sp, lv, en⟩ := x
  simp only at hb hO hL hU hsw hsp
  have hnl := hb.len
  have hpos := hb.pos
  simp only [Made.enc]
  walk_at "go"
  refine ⟨⟨ns, lks, uus, sp, lv, en⟩, rfl, ⟨hb, hL, hU, hsw, hO⟩, fun d hd => ?_⟩
  obtain ⟨zs, rfl, hzl, hsz⟩ := hd
  try simp only at hzl hsz
  walk_at "go"
  refine we_tkE (we_st ?_)
  walk_at "go"
  refine ⟨script, 2, rfl, rfl, by omega, fun q0 => ?_⟩
  walk_at "go"
  refine ⟨0, 1000, q0, rfl, rfl, ⟨by omega, by omega⟩, rfl, fun top q1 _ _ => ?_⟩
  walk_at "go"
  have hroot := getI hpos
  have hrk : kdAt ns 0 = some .body := by rw [kdAt_of hroot, (hb.root _ hroot).1]
  refine ⟨⟨ns, lks, sp, zs, 0, top, lv, en⟩, rfl, ⟨⟨hb, hL, hsw, hzl, hO, hpos, by rw [hrk]; decide, by show 6 ≤ lv 0 + 6; omega⟩, fun k hk => ⟨_, getI (by show k < zs.length; rw [hzl]; exact hk)⟩⟩, fun d hd => ?_⟩
  obtain ⟨tf, rfl, htop, hTf⟩ := hd
  try simp only at htop hTf
  have hen0 : en 0 = ns.length := hO.top
  have A : All ⟨ns, lks, uus, sp, lv, en⟩ zs tf := ⟨hM, hzl, hsz, fun j n hj hn hc => by
    obtain ⟨hg, ts, tot, a, b, c⟩ := hTf j n (Nat.zero_le _) (by rw [hen0]; exact hj) hn hc
    exact ⟨hg, ts, tot, a, b, fun q hq => (c q hq).2.2⟩⟩
  simp only [hen0]
  have hnn : nnr ns 0 ns.length = 0 :: nnr ns 1 ns.length := by
    rw [nnr_app (b := 1) (by omega) (by omega), nnr_one, if_pos (by rw [hrk]; decide)]; rfl
  have hnl2 := nnr_len (ns := ns) (a := 0) (b := ns.length)
  walk_at "go"
  refine we_dnewK ?_
  walk_at "go"
  refine ws_for (fun j ρ m => ∃ (f : Key → Option D) (x9 : Option SV), ρ = [some (.dat (.scr script)), some (.dat (encB ns)), some (.dat (encLk lks)), some (.dat (encUU uus)), some (.dat (encP sp)), some (.dat (encSz zs)), some (.dat (.int top)), some (.dat (.lst ((nnr ns 0 ns.length).map fun k => (bxOf ns sp zs tf k).enc))), some (.ob 1), x9, none, none, none, none, none] ∧
    m = [stm q1, .dK f j] ∧ ∀ k ∈ (nnr ns 0 ns.length).take j, f (.inl (k : Int)) = some (bxOf ns sp zs tf k).enc) (wi_list ?_)
  walk_at "go"
  refine ⟨⟨_, _, rfl, rfl, fun k h => by simp at h⟩, ?_, ?_⟩
  · rintro j dd ρ m hd ⟨f, x9, rfl, rfl, hf⟩
    obtain ⟨k, hk, rfl⟩ := map_got hd
    have hjl := (List.getElem?_eq_some_iff.mp hk).1
    walk_at "go"
    refine ws_dput ?_
    walk_at "go"
    refine ⟨1, f, j, .inl (k : Int), rfl, rfl, rfl, by omega, ?_⟩
    refine ⟨_, _, rfl, rfl, fun k' hk' => ?_⟩
    by_cases e : k' = k
    · subst e
      rw [if_pos rfl]
    · rw [if_neg (fun z => e (by injection z with z; omega))]
      rw [List.take_add_one, hk] at hk'
      rcases List.mem_append.mp hk' with z | z
      · exact hf k' z
      · exact absurd (by simpa using z) e
  rintro ρ m ⟨f, x9, rfl, rfl, hf⟩
  rw [List.length_map, List.take_length] at hf
  generalize hfn : (List.map (fun k => (bxOf ns sp zs tf k).enc) (nnr ns 0 ns.length)).length = fn
  walk_at "go"
  refine we_lcP (fun k => decide (kdAt ns k ≠ some .note)) (fun k => .int (k : Int)) (gin_name (by decide)) (wi_r1 ?_)
  walk_at "go"
  rw [List.length_map]
  refine ⟨_, rfl, by omega, by rw [rngD_len]; omega, rfl, fun k y hk => ?_, ?_⟩
  · obtain ⟨hk1, rfl⟩ := rngD_get hk
    have hkn := getI (xs := ns) (i := k) (by omega)
    obtain ⟨n, hnn⟩ : ∃ n, ns[k]'(by omega) = n := ⟨_, rfl⟩
    rw [hnn] at hkn
    rw [kdAt_of hkn]
    walk_at "go"
    refine wr_ixL isl_d (at_i (i := k) (by omega) hkn) ?_
    walk_at "go"
    refine ⟨rfl, ?_, fun _ => ?_⟩
    · rw [show decide (n.kd.s = ("note" : Str)) = decide (n.kd = .note) from kd_dec n.kd .note]
      simp
    · walk_at "go"
      exact ⟨rfl, by show D.int (0 + (k : Nat)) = _; rw [Int.zero_add]⟩
  rw [rngD_len, Int.toNat_natCast, nnr_ltD]
  walk_at "gi"
  refine ws_mid (fun ρ m => ρ = [some (.dat (.scr script)), some (.dat (encB ns)), some (.dat (encLk lks)), some (.dat (encUU uus)), some (.dat (encP sp)), some (.dat (encSz zs)), some (.dat (.int top)), some (.dat (.lst ((nnr ns 0 ns.length).map fun k => (bxOf ns sp zs tf k).enc))), some (.ob 1), x9, none, some (.dat (.lst (((nnr ns 0 ns.length).map fun (k : Nat) => (k : Int)).map D.int))), none, none, none] ∧ m = [stm q1, .dK f fn]) ?_ ?_
  · refine ws_if (wt_mono (Ψ' := fun b m => b = false ∧ m = [stm q1, .dK f fn]) ?_ ?_)
    · walk_at "go"
      refine we_lcM (α := Nat) (gin_name (by decide)) (wi_list ?_)
      walk_at "go"
      refine ⟨nnr ns 0 ns.length, fun k => (bxOf ns sp zs tf k).enc, fun k => .int (k : Int), rfl, by omega, rfl, fun i k hk => ?_, ?_⟩
      · walk_at "go"
        refine ⟨rfl, ?_⟩
        walk_at "go"
        exact ⟨rfl, rfl⟩
      have em : (nnr ns 0 ns.length).map (fun (k : Nat) => D.int (k : Int)) = ((nnr ns 0 ns.length).map fun (k : Nat) => (k : Int)).map D.int := by rw [List.map_map]; rfl
      rw [em]
      walk_at "go"
      refine wr_neD isl_d isl_d (ints_lay _).1 (ints_lay _).1 (ints_shaped _) (ints_shaped _) ?_
      rw [ints_eqv]
      walk_at "go"
      refine ifn (fun h => absurd rfl h) (fun _ => ?_)
      walk_at "go"
      refine wr_ixL isl_d (d := (bxOf ns sp zs tf 0).enc) (at_m (f := fun k => (bxOf ns sp zs tf k).enc) (i := 0) (by rw [hnn]; rfl)) ?_
      walk_at "go"
      refine ⟨?_, rfl⟩
      have : (bxOf ns sp zs tf 0).t = top := htop
      simp [this]
    · rintro b m ⟨rfl, rfl⟩
      refine iff' ?_
      walk_at "go"
      exact ⟨rfl, rfl⟩
  rintro ρ m ⟨rfl, rfl⟩
  walk_at "go"
  refine ws_for (fun j ρ m => ∃ (x10 x12 x13 : Option SV), ρ = [some (.dat (.scr script)), some (.dat (encB ns)), some (.dat (encLk lks)), some (.dat (encUU uus)), some (.dat (encP sp)), some (.dat (encSz zs)), some (.dat (.int top)), some (.dat (.lst ((nnr ns 0 ns.length).map fun k => (bxOf ns sp zs tf k).enc))), some (.ob 1), x9, x10, some (.dat (.lst (((nnr ns 0 ns.length).map fun (k : Nat) => (k : Int)).map D.int))), x12, x13, none] ∧ m = [stm q1, .dK f fn]) (wi_list ?_)
  walk_at "go"
  refine ⟨_, isl_d, ?_⟩
  have es : cutD (((nnr ns 0 ns.length).map fun (k : Nat) => (k : Int)).map D.int) (some 1) none = ((nnr ns 1 ns.length).map fun (k : Nat) => (k : Int)).map D.int := by
    rw [show (some (1 : Int)) = some ((1 : Nat) : Int) from rfl, cut_from, hnn]; rfl
  rw [es]
  refine lo ?_
  refine ⟨⟨_, _, _, rfl, rfl⟩, ?_, ?_⟩
  · rintro j dd ρ m hd ⟨x10, x12, x13, rfl, rfl⟩
    rw [List.map_map] at hd
    obtain ⟨k, hk, rfl⟩ := map_got hd
    obtain ⟨⟨k1, k2⟩, k3⟩ := nnr_mem2.mp (List.mem_of_getElem? hk)
    have hkn := getI k2
    obtain ⟨n, hnn'⟩ : ∃ n, ns[k]'k2 = n := ⟨_, rfl⟩
    rw [hnn'] at hkn
    have hknote : n.kd ≠ .note := fun z => k3 (by rw [kdAt_of hkn, z])
    obtain ⟨e, he, hel, hwi⟩ := A.within (by omega) hkn hknote
    obtain ⟨e', m, he', hei, hem, hec, hkh⟩ := A.elder (by omega) hkn hknote
    have hee : e' = e := by omega
    subst hee
    try simp only at hel hem hkh
    have henote : kdAt ns e' ≠ some .note := fun z => by
      rw [kdAt_of hem] at z
      rw [Option.some.inj z] at hec; cases hec
    have hfk := hf k (nnr_mem2.mpr ⟨⟨by omega, k2⟩, k3⟩)
    have hfe := hf e' (nnr_mem2.mpr ⟨⟨by omega, hel⟩, henote⟩)
    show WG K (gName 10) (.dat (.int (k : Int))) _ _ _
    walk_at "go"
    refine we_callM ?_
    walk_at "go"
    refine ⟨⟨ns, lks, f, fn, k, e', bxOf ns sp zs tf k, bxOf ns sp zs tf e'⟩, [1], rfl, by simp, rfl, fun i hi => ?_, ⟨⟨n, hkn, he⟩, hfk, hfe, hL.mono hel, hwi⟩, ?_⟩
    · simp [S__law_within] at hi; simp [hi]
    rintro s mc ⟨rfl, rfl⟩
    have ep : putAll [stm q1, .dK f fn] [1] [.dK f fn] ++ [Ct.dK f fn].drop ([1] : List Nat).length = [stm q1, .dK f fn] := by simp [putAll]
    rw [ep]
    simp only [backV]
    walk_at "go"
    refine iff' ?_
    walk_at "go"
    refine wr_ixL isl_d (at_m hkn) ?_
    walk_at "go"
    rw [he]
    refine ⟨(ns, e'), rfl, hnl, fun d hd => ?_⟩
    simp only [S__law_held] at hd
    subst hd
    walk_at "gi"
    refine ws_mid (fun ρ m => ∃ (x13 : Option SV), ρ = [some (.dat (.scr script)), some (.dat (encB ns)), some (.dat (encLk lks)), some (.dat (encUU uus)), some (.dat (encP sp)), some (.dat (encSz zs)), some (.dat (.int top)), some (.dat (.lst ((nnr ns 0 ns.length).map fun k => (bxOf ns sp zs tf k).enc))), some (.ob 1), x9, some (.dat (.int (k : Int))), some (.dat (.lst (((nnr ns 0 ns.length).map fun (k : Nat) => (k : Int)).map D.int))), some (.dat (encN (heldN ns e'))), x13, none] ∧ m = [stm q1, .dK f fn]) ?_ ?_
    · refine ws_forE (wi_list ?_)
      refine we_lc (gin_name (by decide)) (fun i ys m => m = [stm q1, .dK f fn] ∧ ∃ os : List Nat, ys = os.map (fun (o : Nat) => D.int (o : Int)) ∧ os.length ≤ i ∧ ∀ o ∈ os, o ∈ heldN ns e' ∧ k < o) (wi_list ?_)
      walk_at "go"
      have hhl : (heldN ns e').length ≤ ns.length := by
        unfold heldN
        have := List.length_filter_le (fun k => decide ((ns.map Nd.el)[k]? = some (e' : Int)) && decide (kdAt ns k ≠ some .note)) (List.range ns.length)
        rwa [List.length_range] at this
      refine ⟨⟨rfl, [], rfl, Nat.le_refl _, fun o h => by cases h⟩, ?_, ?_⟩
      · rintro i dd ys m hd ⟨rfl, os, rfl, hol, hos⟩ _
        obtain ⟨o, ho, rfl⟩ := map_got hd
        have hil := (List.getElem?_eq_some_iff.mp ho).1
        walk_at "go"
        by_cases hlt : k < o
        · rw [if_pos (decide_eq_true (by omega))]
          walk_at "go"
          refine ⟨by omega, rfl, os ++ [o], by rw [List.map_append]; rfl, by simp; omega, fun o' ho' => ?_⟩
          rcases List.mem_append.mp ho' with z | z
          · exact hos o' z
          · rw [List.mem_singleton.mp z]; exact ⟨List.mem_of_getElem? ho, hlt⟩
        · rw [if_neg (by simpa using hlt)]
          exact ⟨rfl, os, rfl, by omega, hos⟩
      rintro ys m ⟨rfl, os, rfl, hol, hos⟩ _
      refine lo ?_
      refine ⟨fun i ρ m => ∃ (x13 : Option SV), ρ = [some (.dat (.scr script)), some (.dat (encB ns)), some (.dat (encLk lks)), some (.dat (encUU uus)), some (.dat (encP sp)), some (.dat (encSz zs)), some (.dat (.int top)), some (.dat (.lst ((nnr ns 0 ns.length).map fun k => (bxOf ns sp zs tf k).enc))), some (.ob 1), x9, some (.dat (.int (k : Int))), some (.dat (.lst (((nnr ns 0 ns.length).map fun (k : Nat) => (k : Int)).map D.int))), some (.dat (encN (heldN ns e'))), x13, none] ∧ m = [stm q1, .dK f fn], ⟨_, rfl, rfl⟩, ?_, ?_⟩
      · rintro i dd ρ m hd ⟨x13', rfl, rfl⟩
        obtain ⟨o, ho, rfl⟩ := map_got hd
        obtain ⟨ho1, ho2⟩ := hos o (List.mem_of_getElem? ho)
        obtain ⟨o1, o2, o3⟩ := held_mem ho1
        have hoh : o ∈ hold ns e' := mem_hold.mpr ⟨o1, by omega, o2⟩
        have hsk := getI (xs := sp) (i := k) (by rw [hsw.1]; exact k2)
        have hso := getI (xs := sp) (i := o) (by rw [hsw.1]; exact o1)
        have hap := A.apart hem hec hkh hoh ho2 hsk hso
        have hfo := hf o (nnr_mem2.mpr ⟨⟨by omega, o1⟩, o3⟩)
        walk_at "go"
        refine we_callM ?_
        walk_at "go"
        refine ⟨⟨ns, sp, f, fn, k, o, bxOf ns sp zs tf k, bxOf ns sp zs tf o, _, _, lv⟩, [1], rfl, by simp, rfl, fun i hi => ?_, ⟨hb, by show 0 < o; omega, o1, hfk, hfo, hsk, hso, hap⟩, ?_⟩
        · simp [S__law_apart] at hi; simp [hi]
        rintro s mc ⟨rfl, rfl⟩
        have ep : putAll [stm q1, .dK f fn] [1] [.dK f fn] ++ [Ct.dK f fn].drop ([1] : List Nat).length = [stm q1, .dK f fn] := by simp [putAll]
        rw [ep]
        simp only [backV]
        walk_at "go"
        refine iff' ?_
        walk_at "go"
        exact ⟨_, rfl, rfl⟩
      · rintro ρ m ⟨x13', rfl, rfl⟩
        exact ⟨_, rfl, rfl⟩
    rintro ρ m ⟨x13', rfl, rfl⟩
    walk_at "go"
    refine wr_ixL isl_d (at_m hkn) ?_
    walk_at "go"
    refine ifd (fun htx => ?_) (fun _ => ?_)
    · have hkd : n.kd = .text := Kd.inj (b := .text) htx
      have hzk := getI (xs := zs) (i := k) (by rw [hzl]; exact k2)
      walk_at "go"
      refine ⟨⟨ns, lks, uus, sp, zs, k, lv⟩, rfl, ⟨hb, hL, hU, hsw, by show 0 < k; omega, ⟨n, hkn, hkd⟩, _, hzk, (hsz k _ hzk n hkn).1 (by rw [hkd]; rfl)⟩, fun d hd => ?_⟩
      simp only [S__law_rows_beside] at hd
      subst hd
      walk_at "go"
      refine iff' ?_
      walk_at "go"
      exact ⟨_, _, _, rfl, rfl⟩
    · walk_at "go"
      exact ⟨_, _, _, rfl, rfl⟩
  · rintro ρ m ⟨x10, x12, x13, rfl, rfl⟩
    walk_at "go"
    exact ⟨rfl, _, rfl, rfl⟩
end
end LP
end

theorem PySem.Challenge.cw_leafpress_k33_whole_insides_holds : PySem.Challenge.rw_leafpress_k33_whole_insides.Holds :=
  LP.pre fun T _ _ FL => LP.ok_law T FL
#print axioms PySem.Challenge.cw_leafpress_k33_whole_insides_holds
