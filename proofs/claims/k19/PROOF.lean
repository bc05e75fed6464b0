import PyProof.Rows.All
import HandS.ForMost
import HandS.Wide
import HandS.WideBits
import HandS.IsInst
import HandS.Deep
import HandS.TupMul
import HandS.TupAny
import HandS.Codes
import HandS.Steps
import HandS.Style
import HandS.More
import HandS.Strs
import HandS.Replace
import HandS.Conv
import HandS.SortInts
import HandS.SortKw
import HandS.Zip
import KE.GoesZip
import KE.GoesMore
import KE.GoesEnum
import HandS.NoneIn
import HandS.Exc
import KE.KDictZip
import HandS.DictComp
import HandS.Defaults
import HandS.HeadHook2
import HandS.Head2
import HandS.HeadEnd
import HandS.Comp
import HandS.List
import HandS.RaiseMore
import PyProof.ReprRoads
import PyProof.Rows.BitMore
import PyProof.ReprBulk
import PyProof.Rows.StrJoinMade
import PySem.Challenge.RW_faceonface_k19_whole_told_lots
set_option Elab.async false
set_option linter.all false
set_option linter.all false
set_option maxRecDepth 100000
namespace MM
open PySem L2

/-- deep data; `ptr n` is the n-th object of the abstract heap -/
inductive D where
  | non | bl (b : Bool) | int (i : Int) | str (x : Str)
  | tup (l : List D) | lst (l : List D) | scr (l : List D)
  | dic (l : List (Key × D)) | dct (l : List (List Key × D))
  | ins (c : Str) (f : List (Str × D))
  | ptr (n : Nat)
  deriving Inhabited

/-- a mutable object -/
inductive AO where
  | lst (l : List D) | dic (l : List (Key × D)) | dct (l : List (List Key × D)) | ins (c : Str) (f : List (Str × D)) | gone
  deriving Inhabited

abbrev AH := List AO
abbrev DL := List (Option D)

mutual
/-- every ptr below n -/
def D.bd (n : Nat) : D → Bool
  | .tup l => D.bds n l
  | .lst l => D.bds n l
  | .scr l => D.bds n l
  | .dic l => D.bdK n l
  | .dct l => D.bdT n l
  | .ins _ f => D.bdF n f
  | .ptr m => decide (m < n)
  | _ => true
def D.bds (n : Nat) : List D → Bool
  | [] => true
  | d :: r => D.bd n d && D.bds n r
def D.bdK (n : Nat) : List (Key × D) → Bool
  | [] => true
  | (_, d) :: r => D.bd n d && D.bdK n r
def D.bdT (n : Nat) : List (List Key × D) → Bool
  | [] => true
  | (_, d) :: r => D.bd n d && D.bdT n r
def D.bdF (n : Nat) : List (Str × D) → Bool
  | [] => true
  | (_, d) :: r => D.bd n d && D.bdF n r
end
mutual
def D.beq : D → D → Bool
  | .non, .non => true
  | .bl a, .bl b => a == b
  | .int a, .int b => a == b
  | .str a, .str b => decide (a = b)
  | .tup l, .tup m => D.beqs l m
  | .lst l, .lst m => D.beqs l m
  | .scr l, .scr m => D.beqs l m
  | .dic l, .dic m => D.beqK l m
  | .dct l, .dct m => D.beqT l m
  | .ins c f, .ins d g => decide (c = d) && D.beqF f g
  | .ptr a, .ptr b => a == b
  | _, _ => false
def D.beqs : List D → List D → Bool
  | [], [] => true
  | d :: r, e :: t => D.beq d e && D.beqs r t
  | _, _ => false
def D.beqK : List (Key × D) → List (Key × D) → Bool
  | [], [] => true
  | (k, d) :: r, (j, e) :: t => decide (k = j) && (D.beq d e && D.beqK r t)
  | _, _ => false
def D.beqT : List (List Key × D) → List (List Key × D) → Bool
  | [], [] => true
  | (k, d) :: r, (j, e) :: t => decide (k = j) && (D.beq d e && D.beqT r t)
  | _, _ => false
def D.beqF : List (Str × D) → List (Str × D) → Bool
  | [], [] => true
  | (k, d) :: r, (j, e) :: t => decide (k = j) && (D.beq d e && D.beqF r t)
  | _, _ => false
end
mutual
theorem D.beq_eq : ∀ (d e : D), D.beq d e = true → d = e
  | .non, e, h => by cases e <;> simp [D.beq] at h ⊢
  | .bl a, e, h => by cases e <;> simp [D.beq] at h ⊢ <;> exact h
  | .int a, e, h => by cases e <;> simp [D.beq] at h ⊢ <;> exact h
  | .str a, e, h => by cases e <;> simp [D.beq] at h ⊢ <;> exact h
  | .tup l, e, h => by
    cases e with
    | tup m => rw [D.beqs_eq l m (by simpa [D.beq] using h)]
    | _ => simp [D.beq] at h
  | .lst l, e, h => by
    cases e with
    | lst m => rw [D.beqs_eq l m (by simpa [D.beq] using h)]
    | _ => simp [D.beq] at h
  | .scr l, e, h => by
    cases e with
    | scr m => rw [D.beqs_eq l m (by simpa [D.beq] using h)]
    | _ => simp [D.beq] at h
  | .dic l, e, h => by
    cases e with
    | dic m => rw [D.beqK_eq l m (by simpa [D.beq] using h)]
    | _ => simp [D.beq] at h
  | .dct l, e, h => by
    cases e with
    | dct m => rw [D.beqT_eq l m (by simpa [D.beq] using h)]
    | _ => simp [D.beq] at h
  | .ins c f, e, h => by
    cases e with
    | ins d g =>
      simp only [D.beq, Bool.and_eq_true, decide_eq_true_eq] at h
      rw [h.1, D.beqF_eq f g h.2]
    | _ => simp [D.beq] at h
  | .ptr a, e, h => by cases e <;> simp [D.beq] at h ⊢ <;> exact h
theorem D.beqs_eq : ∀ (l m : List D), D.beqs l m = true → l = m
  | [], m, h => by cases m <;> simp [D.beqs] at h ⊢
  | d :: r, m, h => by
    cases m with
    | nil => simp [D.beqs] at h
    | cons e t =>
      simp only [D.beqs, Bool.and_eq_true] at h
      rw [D.beq_eq d e h.1, D.beqs_eq r t h.2]
theorem D.beqK_eq : ∀ (l m : List (Key × D)), D.beqK l m = true → l = m
  | [], m, h => by cases m <;> simp [D.beqK] at h ⊢
  | (k, d) :: r, m, h => by
    cases m with
    | nil => simp [D.beqK] at h
    | cons p t =>
      obtain ⟨j, e⟩ := p
      simp only [D.beqK, Bool.and_eq_true, decide_eq_true_eq] at h
      rw [h.1, D.beq_eq d e h.2.1, D.beqK_eq r t h.2.2]
theorem D.beqT_eq : ∀ (l m : List (List Key × D)), D.beqT l m = true → l = m
  | [], m, h => by cases m <;> simp [D.beqT] at h ⊢
  | (k, d) :: r, m, h => by
    cases m with
    | nil => simp [D.beqT] at h
    | cons p t =>
      obtain ⟨j, e⟩ := p
      simp only [D.beqT, Bool.and_eq_true, decide_eq_true_eq] at h
      rw [h.1, D.beq_eq d e h.2.1, D.beqT_eq r t h.2.2]
theorem D.beqF_eq : ∀ (l m : List (Str × D)), D.beqF l m = true → l = m
  | [], m, h => by cases m <;> simp [D.beqF] at h ⊢
  | (k, d) :: r, m, h => by
    cases m with
    | nil => simp [D.beqF] at h
    | cons p t =>
      obtain ⟨j, e⟩ := p
      simp only [D.beqF, Bool.and_eq_true, decide_eq_true_eq] at h
      rw [h.1, D.beq_eq d e h.2.1, D.beqF_eq r t h.2.2]
end
mutual
theorem D.beq_refl : ∀ d : D, D.beq d d = true
  | .non => by simp [D.beq]
  | .bl a => by simp [D.beq]
  | .int a => by simp [D.beq]
  | .str a => by simp [D.beq]
  | .tup l => by simpa [D.beq] using D.beqs_refl l
  | .lst l => by simpa [D.beq] using D.beqs_refl l
  | .scr l => by simpa [D.beq] using D.beqs_refl l
  | .dic l => by simpa [D.beq] using D.beqK_refl l
  | .dct l => by simpa [D.beq] using D.beqT_refl l
  | .ins c f => by simpa [D.beq] using D.beqF_refl f
  | .ptr a => by simp [D.beq]
theorem D.beqs_refl : ∀ l : List D, D.beqs l l = true
  | [] => by simp [D.beqs]
  | d :: r => by simp [D.beqs, D.beq_refl d, D.beqs_refl r]
theorem D.beqK_refl : ∀ l : List (Key × D), D.beqK l l = true
  | [] => by simp [D.beqK]
  | (k, d) :: r => by simp [D.beqK, D.beq_refl d, D.beqK_refl r]
theorem D.beqT_refl : ∀ l : List (List Key × D), D.beqT l l = true
  | [] => by simp [D.beqT]
  | (k, d) :: r => by simp [D.beqT, D.beq_refl d, D.beqT_refl r]
theorem D.beqF_refl : ∀ l : List (Str × D), D.beqF l l = true
  | [] => by simp [D.beqF]
  | (k, d) :: r => by simp [D.beqF, D.beq_refl d, D.beqF_refl r]
end
instance : DecidableEq D := fun d e => if h : D.beq d e = true then .isTrue (D.beq_eq d e h) else .isFalse fun q => h (by rw [q]; exact D.beq_refl e)
instance : DecidableEq AO := fun
  | .lst a, .lst b => if h : a = b then .isTrue (by rw [h]) else .isFalse fun q => h (AO.lst.inj q)
  | .dic a, .dic b => if h : a = b then .isTrue (by rw [h]) else .isFalse fun q => h (AO.dic.inj q)
  | .dct a, .dct b => if h : a = b then .isTrue (by rw [h]) else .isFalse fun q => h (AO.dct.inj q)
  | .ins c a, .ins d b => if h : c = d ∧ a = b then .isTrue (by rw [h.1, h.2]) else .isFalse fun q => h ⟨(AO.ins.inj q).1, (AO.ins.inj q).2⟩
  | .gone, .gone => .isTrue rfl
  | .lst _, .dic _ => .isFalse fun q => nomatch q
  | .lst _, .dct _ => .isFalse fun q => nomatch q
  | .lst _, .ins _ _ => .isFalse fun q => nomatch q
  | .lst _, .gone => .isFalse fun q => nomatch q
  | .dic _, .lst _ => .isFalse fun q => nomatch q
  | .dic _, .dct _ => .isFalse fun q => nomatch q
  | .dic _, .ins _ _ => .isFalse fun q => nomatch q
  | .dic _, .gone => .isFalse fun q => nomatch q
  | .dct _, .lst _ => .isFalse fun q => nomatch q
  | .dct _, .dic _ => .isFalse fun q => nomatch q
  | .dct _, .ins _ _ => .isFalse fun q => nomatch q
  | .dct _, .gone => .isFalse fun q => nomatch q
  | .ins _ _, .lst _ => .isFalse fun q => nomatch q
  | .ins _ _, .dic _ => .isFalse fun q => nomatch q
  | .ins _ _, .dct _ => .isFalse fun q => nomatch q
  | .ins _ _, .gone => .isFalse fun q => nomatch q
  | .gone, .lst _ => .isFalse fun q => nomatch q
  | .gone, .dic _ => .isFalse fun q => nomatch q
  | .gone, .dct _ => .isFalse fun q => nomatch q
  | .gone, .ins _ _ => .isFalse fun q => nomatch q

/-- the state: avoided addresses, where the abstract objects stand, the abstract heap, the hand layer's heap -/
structure S where
  B : Addr → Prop
  ι : List Addr
  ah : AH
  H : Hp
def live (s : S) (a : Addr) : Prop := ∃ (n : Nat) (o : AO), s.ι[n]? = some a ∧ s.ah[n]? = some o ∧ o ≠ .gone
def av (s : S) (a : Addr) : Prop := live s a ∨ s.B a

/-- what is fixed: the written part, where the classes stand -/
structure Gx where
  K : PySem.W.Frag
  cl : Str → Option Addr

mutual
inductive DV (G : Gx) (s : S) : D → V → Prop
  | non : DV G s .non .non
  | bl (b : Bool) : DV G s (.bl b) (.bl b)
  | int (i : Int) : DV G s (.int i) (.int i)
  | str (x : Str) : DV G s (.str x) (.str x)
  | ptr {n : Nat} {a : Addr} (h : s.ι[n]? = some a) : DV G s (.ptr n) (.ref a)
  | tup {l : List D} {a : Addr} {vs : List V} (h : Rd s.H a (.tup vs)) (nl : ¬ av s a) (hs : DVs G s l vs) : DV G s (.tup l) (.ref a)
  | tupK {l : List D} {a : Addr} {vs : List V} {o : Obj} {its : Array Value} {n : Nat} (h : G.K.lookup a = some o) (h1 : o.cls = .type "tuple") (h2 : o.data = .seq its n) (h3 : its.size ≤ sizeLine) (h4 : Vals vs its.toList) (hs : DVs G s l vs) : DV G s (.tup l) (.ref a)
  | lst {l : List D} {a : Addr} {vs : List V} (h : s.H a = some (.lst vs)) (nl : ¬ av s a) (hs : DVs G s l vs) : DV G s (.lst l) (.ref a)
  | scr {l : List D} {a : Addr} {vs : List V} (h : Rd s.H a (.lst vs)) (nl : ¬ av s a) (hs : DVs G s l vs) : DV G s (.scr l) (.ref a)
  | scrK {l : List D} {a : Addr} {vs : List V} (h : ∃ (o : Obj) (its : Array Value) (n : Nat), G.K.lookup a = some o ∧ o.cls = .type "list" ∧ o.dict = none ∧ o.data = .seq its n ∧ its.size ≤ sizeLine ∧ Vals vs its.toList) (hs : DVs G s l vs) : DV G s (.scr l) (.ref a)
  | dic {l : List (Key × D)} {a : Addr} {kvs : List (Key × V)} (h : Rd s.H a (.dK kvs)) (nl : ¬ av s a) (hk : kvs.map (·.1) = l.map (·.1)) (hs : DVs G s (l.map (·.2)) (kvs.map (·.2))) : DV G s (.dic l) (.ref a)
  | dct {l : List (List Key × D)} {a : Addr} {kvs : List (List Key × V)} (h : Rd s.H a (.dT kvs)) (nl : ¬ av s a) (hk : kvs.map (·.1) = l.map (·.1)) (hs : DVs G s (l.map (·.2)) (kvs.map (·.2))) : DV G s (.dct l) (.ref a)
  | ins {c : Str} {f : List (Str × D)} {a C dx : Addr} {fs : List (Str × V)} (h : s.H a = some (.ins C dx fs)) (hc : G.cl c = some C) (nl : ¬ av s a) (hk : fs.map (·.1) = f.map (·.1)) (hs : DVs G s (f.map (·.2)) (fs.map (·.2))) : DV G s (.ins c f) (.ref a)
inductive DVs (G : Gx) (s : S) : List D → List V → Prop
  | nil : DVs G s [] []
  | cons {d : D} {l : List D} {v : V} {vs : List V} : DV G s d v → DVs G s l vs → DVs G s (d :: l) (v :: vs)
end

def OV (G : Gx) (s : S) (a : Addr) : AO → Prop
  | .gone => True
  | .lst l => ∃ vs, s.H a = some (.lst vs) ∧ DVs G s l vs
  | .dic l => ∃ kvs, s.H a = some (.dK kvs) ∧ kvs.map (·.1) = l.map (·.1) ∧ DVs G s (l.map (·.2)) (kvs.map (·.2))
  | .dct l => ∃ kvs, s.H a = some (.dT kvs) ∧ kvs.map (·.1) = l.map (·.1) ∧ DVs G s (l.map (·.2)) (kvs.map (·.2))
  | .ins c f => ∃ C dx fs, G.cl c = some C ∧ s.H a = some (.ins C dx fs) ∧ fs.map (·.1) = f.map (·.1) ∧ DVs G s (f.map (·.2)) (fs.map (·.2))

structure Ok (G : Gx) (s : S) : Prop where
  len : s.ι.length = s.ah.length
  inj : ∀ (i j : Nat) a, s.ι[i]? = some a → s.ι[j]? = some a → i = j
  ne : ∀ (n : Nat) a, s.ι[n]? = some a → s.H a ≠ none
  nb : ∀ a, s.B a → s.H a ≠ none
  dj : ∀ (n : Nat) a, s.ι[n]? = some a → ¬ s.B a
  obj : ∀ (n : Nat) a o, s.ι[n]? = some a → s.ah[n]? = some o → OV G s a o

/-- as it was; a dict may have been locked -/
def Kept (o : HO) (x : Option HO) : Prop := x = some o ∨ ∃ od kvs, o = .dK kvs ∧ x = some (.frz od o)
theorem Kept.of {o : HO} {x : Option HO} (h : Kept o x) (n : ∀ kvs, o ≠ .dK kvs) : x = some o := h.elim id fun ⟨_, kvs, e, _⟩ => absurd e (n kvs)
theorem Kept.ne {o : HO} {x : Option HO} (h : Kept o x) : x ≠ none := by
  rcases h with h | ⟨_, _, _, h⟩ <;> rw [h] <;> exact fun q => nomatch q
theorem Kept.trans {o : HO} {x y : Option HO} (h : Kept o x) (k : ∀ u, x = some u → Kept u y) : Kept o y := by
  rcases h with h | ⟨od, kvs, e, h⟩
  · exact k _ h
  · exact .inr ⟨od, kvs, e, (k _ h).of fun _ q => nomatch q⟩
theorem Kept.rd {H H' : Hp} {a : Addr} {u : HO} (e : Rd H a u) (k : ∀ o, H a = some o → Kept o (H' a)) : Rd H' a u := by
  rcases e with e | ⟨o, e⟩
  · rcases k _ e with h | ⟨od, kvs, _, h⟩
    · exact .inl h
    · exact .inr ⟨od, h⟩
  · exact .inr ⟨o, (k _ e).of fun _ q => nomatch q⟩
/-- what data needs to stand: nothing that it leans on is touched -/
structure Gr (s s' : S) : Prop where
  pre : ∀ (n : Nat) a, s.ι[n]? = some a → s'.ι[n]? = some a
  keep : ∀ a o, s.H a = some o → ¬ av s a → Kept o (s'.H a)
  nav : ∀ a, av s' a → av s a ∨ s.H a = none
theorem Gr.refl {s : S} : Gr s s := ⟨fun _ _ h => h, fun _ _ h _ => .inl h, fun _ h => .inl h⟩
theorem Gr.not {s s' : S} (h : Gr s s') {a : Addr} {o : HO} (e : s.H a = some o) (n : ¬ av s a) : ¬ av s' a := fun l => by
  rcases h.nav a l with l | q
  · exact n l
  · rw [e] at q; cases q
theorem Gr.trans {s s1 s2 : S} (h1 : Gr s s1) (h2 : Gr s1 s2) : Gr s s2 where
  pre := fun n a h => h2.pre n a (h1.pre n a h)
  keep := fun a o h n => (h1.keep a o h n).trans fun u e => h2.keep a u e (h1.not h n)
  nav := fun a l => by
    by_cases hn : s.H a = none
    · exact .inr hn
    · obtain ⟨o, ho⟩ := Option.ne_none_iff_exists'.mp hn
      by_cases hv : av s a
      · exact .inl hv
      · rcases h2.nav a l with l | q
        · exact absurd l (h1.not ho hv)
        · exact absurd q (h1.keep a o ho hv).ne
theorem Gr.rd {s s' : S} (h : Gr s s') {a : Addr} {u : HO} (e : Rd s.H a u) (n : ¬ av s a) : Rd s'.H a u ∧ ¬ av s' a := by
  refine ⟨Kept.rd e fun o q => h.keep a o q n, ?_⟩
  rcases e with e | ⟨o, e⟩
  · exact h.not e n
  · exact h.not e n
mutual
theorem DV.mono {G : Gx} {s s' : S} (h : Gr s s') : ∀ {d : D} {v : V}, DV G s d v → DV G s' d v
  | _, _, .non => .non
  | _, _, .bl b => .bl b
  | _, _, .int i => .int i
  | _, _, .str x => .str x
  | _, _, .ptr e => .ptr (h.pre _ _ e)
  | _, _, .tup e n hs => .tup (h.rd e n).1 (h.rd e n).2 (DVs.mono h hs)
  | _, _, .tupK a b c d e hs => .tupK a b c d e (DVs.mono h hs)
  | _, _, .lst e n hs => .lst ((h.keep _ _ e n).of fun _ q => nomatch q) (h.not e n) (DVs.mono h hs)
  | _, _, .scr e n hs => .scr (h.rd e n).1 (h.rd e n).2 (DVs.mono h hs)
  | _, _, .scrK e hs => .scrK e (DVs.mono h hs)
  | _, _, .dic e n hk hs => .dic (h.rd e n).1 (h.rd e n).2 hk (DVs.mono h hs)
  | _, _, .dct e n hk hs => .dct (h.rd e n).1 (h.rd e n).2 hk (DVs.mono h hs)
  | _, _, .ins e hc n hk hs => .ins ((h.keep _ _ e n).of fun _ q => nomatch q) hc (h.not e n) hk (DVs.mono h hs)
theorem DVs.mono {G : Gx} {s s' : S} (h : Gr s s') : ∀ {l : List D} {vs : List V}, DVs G s l vs → DVs G s' l vs
  | _, _, .nil => .nil
  | _, _, .cons a b => .cons (DV.mono h a) (DVs.mono h b)
end

/-- steps of the state -/
structure Le (G : Gx) (s s' : S) : Prop where
  b : s'.B = s.B
  pre : ∀ (n : Nat) a, s.ι[n]? = some a → s'.ι[n]? = some a
  keep : ∀ a o, s.H a = some o → ¬ live s a → Kept o (s'.H a)
  newl : ∀ a, live s' a → live s a ∨ s.H a = none
  some : ∀ a, s.H a ≠ none → s'.H a ≠ none
  ok : Ok G s'
theorem Le.gr {G : Gx} {s s' : S} (h : Le G s s') : Gr s s' := ⟨h.pre, fun a o e n => h.keep a o e fun q => n (.inl q), fun a l => by
  rcases l with l | l
  · rcases h.newl a l with l | q
    · exact .inl (.inl l)
    · exact .inr q
  · rw [h.b] at l
    exact .inl (.inr l)⟩
theorem Le.refl {G : Gx} {s : S} (h : Ok G s) : Le G s s := ⟨rfl, fun _ _ h => h, fun _ _ h _ => .inl h, fun _ h => .inl h, fun _ h => h, h⟩
theorem Le.trans {G : Gx} {s s1 s2 : S} (h1 : Le G s s1) (h2 : Le G s1 s2) : Le G s s2 where
  b := h2.b.trans h1.b
  pre := fun n a h => h2.pre n a (h1.pre n a h)
  keep := fun a o h nl => (h1.keep a o h nl).trans fun u e => h2.keep a u e fun l => (h1.newl a l).elim nl fun q => by rw [h] at q; cases q
  newl := fun a l => by
    rcases h2.newl a l with l | q
    · exact h1.newl a l
    · by_cases h : s.H a = none
      · exact .inr h
      · exact absurd q (h1.some a h)
  some := fun a h => h2.some a (h1.some a h)
  ok := h2.ok
theorem DV.le {G : Gx} {s s' : S} (h : Le G s s') {d : D} {v : V} (x : DV G s d v) : DV G s' d v := x.mono h.gr
theorem DVs.le {G : Gx} {s s' : S} (h : Le G s s') {d : List D} {v : List V} (x : DVs G s d v) : DVs G s' d v := x.mono h.gr
theorem OV.mono {G : Gx} {s s' : S} (h : Gr s s') {a : Addr} (e : ∀ o, s.H a = some o → s'.H a = some o) : ∀ {o : AO}, OV G s a o → OV G s' a o
  | .gone, _ => trivial
  | .lst _, ⟨vs, x, y⟩ => ⟨vs, e _ x, y.mono h⟩
  | .dic _, ⟨vs, x, z, y⟩ => ⟨vs, e _ x, z, y.mono h⟩
  | .dct _, ⟨vs, x, z, y⟩ => ⟨vs, e _ x, z, y.mono h⟩
  | .ins _ _, ⟨C, dx, fs, x, y, z, w⟩ => ⟨C, dx, fs, x, e _ y, z, w.mono h⟩
theorem Ok.nav {G : Gx} {s : S} (h : Ok G s) {p : Addr} (n : s.H p = none) : ¬ av s p := by
  rintro (⟨k, o, e, _, _⟩ | l)
  · exact h.ne k p e n
  · exact h.nb p l n
/-! ### the steps -/
def S.up (s : S) (p : Addr) (o : HO) : S := { s with H := upd s.H p o }
/-- a new object that is not mutable -/
theorem le_new {G : Gx} {s : S} (h : Ok G s) {p : Addr} (n : s.H p = none) (o : HO) : Le G s (s.up p o) := by
  have k : ∀ a u, s.H a = some u → (s.up p o).H a = some u := fun a u e => by
    show upd s.H p o a = some u
    rw [upd_ne (ne_of_none e n)]
    exact e
  have k' : ∀ a, s.H a ≠ none → (s.up p o).H a ≠ none := fun a q => by
    obtain ⟨u, hu⟩ := Option.ne_none_iff_exists'.mp q
    rw [k a u hu]
    exact fun z => by cases z
  have g : Gr s (s.up p o) := ⟨fun _ _ h => h, fun a u e _ => .inl (k a u e), fun _ h => .inl h⟩
  exact ⟨rfl, fun _ _ h => h, fun a u e _ => .inl (k a u e), fun _ h => .inl h, k', ⟨h.len, h.inj, fun i a e => k' a (h.ne i a e), fun a e => k' a (h.nb a e), h.dj, fun i a u e1 e2 => (h.obj i a u e1 e2).mono g fun u => k a u⟩⟩
/-- a new mutable object -/
def S.add (s : S) (p : Addr) (u : AO) (o : HO) : S := { s with ι := s.ι ++ [p], ah := s.ah ++ [u], H := upd s.H p o }
theorem gr_add {G : Gx} {s : S} (h : Ok G s) {p : Addr} (n : s.H p = none) (u : AO) (o : HO) : Gr s (s.add p u o) := by
  refine ⟨fun i a e => ?_, fun a v e _ => ?_, fun a l => ?_⟩
  · show (s.ι ++ [p])[i]? = some a
    rw [List.getElem?_append_left (List.getElem?_eq_some_iff.mp e).1]
    exact e
  · refine .inl ?_
    show upd s.H p o a = some v
    rw [upd_ne (ne_of_none e n)]
    exact e
  · rcases l with ⟨i, v, e1, e2, e3⟩ | l
    · have e1 : (s.ι ++ [p])[i]? = some a := e1
      have e2 : (s.ah ++ [u])[i]? = some v := e2
      by_cases hi : i < s.ι.length
      · rw [List.getElem?_append_left hi] at e1
        rw [List.getElem?_append_left (h.len ▸ hi)] at e2
        exact .inl (.inl ⟨i, v, e1, e2, e3⟩)
      · rw [List.getElem?_append_right (Nat.le_of_not_lt hi)] at e1
        have : a = p := by
          cases q : i - s.ι.length with
          | zero => rw [q] at e1; simpa using e1.symm
          | succ m => rw [q] at e1; simp at e1
        exact .inr (this ▸ n)
    · exact .inl (.inr l)
theorem le_add {G : Gx} {s : S} (h : Ok G s) {p : Addr} (n : s.H p = none) {u : AO} {o : HO} (ov : OV G (s.add p u o) p u) : Le G s (s.add p u o) := by
  have g := gr_add h n u o
  have k : ∀ a v, s.H a = some v → (s.add p u o).H a = some v := fun a v e => by
    show upd s.H p o a = some v
    rw [upd_ne (ne_of_none e n)]
    exact e
  have k' : ∀ a, s.H a ≠ none → (s.add p u o).H a ≠ none := fun a q => by
    obtain ⟨v, hu⟩ := Option.ne_none_iff_exists'.mp q
    rw [k a v hu]
    exact fun z => by cases z
  have split : ∀ (i : Nat) a, (s.ι ++ [p])[i]? = some a → (i < s.ι.length ∧ s.ι[i]? = some a) ∨ (i = s.ι.length ∧ a = p) := fun i a e => by
    by_cases hi : i < s.ι.length
    · rw [List.getElem?_append_left hi] at e
      exact .inl ⟨hi, e⟩
    · rw [List.getElem?_append_right (Nat.le_of_not_lt hi)] at e
      cases q : i - s.ι.length with
      | zero =>
        rw [q] at e
        exact .inr ⟨by omega, by simpa using e.symm⟩
      | succ m => rw [q] at e; simp at e
  refine ⟨rfl, g.pre, fun a v e _ => .inl (k a v e), fun a l => ?_, k', ⟨?_, ?_, ?_, fun a e => k' a (h.nb a e), ?_, ?_⟩⟩
  · obtain ⟨i, v, e1, e2, e3⟩ := l
    rcases split i a e1 with ⟨hi, e⟩ | ⟨_, rfl⟩
    · have e2 : (s.ah ++ [u])[i]? = some v := e2
      rw [List.getElem?_append_left (h.len ▸ hi)] at e2
      exact .inl ⟨i, v, e, e2, e3⟩
    · exact .inr n
  · show (s.ι ++ [p]).length = (s.ah ++ [u]).length
    simp [h.len]
  · intro i j a e1 e2
    rcases split i a e1 with ⟨_, e⟩ | ⟨hi, ei⟩
    · rcases split j a e2 with ⟨_, f⟩ | ⟨_, fj⟩
      · exact h.inj i j a e f
      · exact absurd n (fj ▸ h.ne i a e)
    · rcases split j a e2 with ⟨_, f⟩ | ⟨hj, _⟩
      · exact absurd n (ei ▸ h.ne j a f)
      · omega
  · intro i a e
    rcases split i a e with ⟨_, e⟩ | ⟨_, rfl⟩
    · exact k' a (h.ne i a e)
    · show upd s.H a o a ≠ none
      rw [upd_same]
      exact fun z => by cases z
  · intro i a e
    rcases split i a e with ⟨_, e⟩ | ⟨_, rfl⟩
    · exact h.dj i a e
    · exact fun b => h.nb a b n
  · intro i a v e1 e2
    have e2 : (s.ah ++ [u])[i]? = some v := e2
    rcases split i a e1 with ⟨hi, e⟩ | ⟨hi, rfl⟩
    · rw [List.getElem?_append_left (h.len ▸ hi)] at e2
      exact (h.obj i a v e e2).mono g fun w => k a w
    · have : v = u := by
        have e2 : (s.ah ++ [u])[i]? = some v := e2
        rw [List.getElem?_append_right (by rw [hi, h.len]; exact Nat.le_refl _)] at e2
        rw [hi, h.len, Nat.sub_self] at e2
        simpa using e2.symm
      rw [this]
      exact ov
/-- a mutable object is written (or let go of: u = .gone) -/
def S.put (s : S) (n : Nat) (a : Addr) (u : AO) (o : HO) : S := { s with ah := s.ah.set n u, H := upd s.H a o }
theorem gr_put {s : S} {n : Nat} {a : Addr} {old : AO} (e : s.ι[n]? = some a) (e' : s.ah[n]? = some old) (nl : old ≠ .gone) (u : AO) (o : HO) : Gr s (s.put n a u o) := by
  refine ⟨fun _ _ h => h, fun b v eb n' => ?_, fun b l => ?_⟩
  · refine .inl ?_
    show upd s.H a o b = some v
    rw [upd_ne fun q => n' (.inl ⟨n, old, by rw [q]; exact e, e', nl⟩)]
    exact eb
  · rcases l with ⟨i, v, e1, e2, e3⟩ | l
    · have e1 : s.ι[i]? = some b := e1
      have e2 : (s.ah.set n u)[i]? = some v := e2
      by_cases hi : n = i
      · subst hi
        exact .inl (.inl ⟨n, old, e1, e', nl⟩)
      · rw [List.getElem?_set_ne hi] at e2
        exact .inl (.inl ⟨i, v, e1, e2, e3⟩)
    · exact .inl (.inr l)
theorem le_put {G : Gx} {s : S} (h : Ok G s) {n : Nat} {a : Addr} {old : AO} (e : s.ι[n]? = some a) (e' : s.ah[n]? = some old) (nl : old ≠ .gone) {u : AO} {o : HO} (ov : OV G (s.put n a u o) a u) : Le G s (s.put n a u o) := by
  have g := gr_put e e' nl u o
  have k : ∀ b v, b ≠ a → s.H b = some v → (s.put n a u o).H b = some v := fun b v q eb => by
    show upd s.H a o b = some v
    rw [upd_ne q]
    exact eb
  have k' : ∀ b, s.H b ≠ none → (s.put n a u o).H b ≠ none := fun b q => by
    by_cases hb : b = a
    · show upd s.H a o b ≠ none
      rw [hb, upd_same]
      exact fun z => by cases z
    · obtain ⟨v, hu⟩ := Option.ne_none_iff_exists'.mp q
      rw [k b v hb hu]
      exact fun z => by cases z
  refine ⟨rfl, g.pre, fun b v eb n' => .inl (k b v (fun q => n' ⟨n, old, by rw [q]; exact e, e', nl⟩) eb), fun b l => ?_, k', ⟨by rw [show (s.put n a u o).ah = s.ah.set n u from rfl, List.length_set]; exact h.len, h.inj, fun i b eb => k' b (h.ne i b eb), fun b eb => k' b (h.nb b eb), h.dj, fun i b v e1 e2 => ?_⟩⟩
  · obtain ⟨i, v, e1, e2, e3⟩ := l
    have e1 : s.ι[i]? = some b := e1
    have e2 : (s.ah.set n u)[i]? = some v := e2
    by_cases hi : n = i
    · subst hi
      exact .inl ⟨n, old, e1, e', nl⟩
    · rw [List.getElem?_set_ne hi] at e2
      exact .inl ⟨i, v, e1, e2, e3⟩
  · have e2 : (s.ah.set n u)[i]? = some v := e2
    have e1 : s.ι[i]? = some b := e1
    by_cases hi : n = i
    · subst hi
      rw [List.getElem?_set_self (by rw [← h.len]; exact (List.getElem?_eq_some_iff.mp e).1)] at e2
      rw [← Option.some.inj e2, show b = a from Option.some.inj (e1.symm.trans e)]
      exact ov
    · rw [List.getElem?_set_ne hi] at e2
      exact (h.obj i b v e1 e2).mono g fun w => k b w fun q => hi (h.inj n i a e (q ▸ e1))
/-- let go: the object stands as data from here on -/
def S.fre (s : S) (n : Nat) : S := { s with ah := s.ah.set n .gone }
theorem le_fre {G : Gx} {s : S} (h : Ok G s) {n : Nat} {a : Addr} {old : AO} (e : s.ι[n]? = some a) (e' : s.ah[n]? = some old) (nl : old ≠ .gone) : Le G s (s.fre n) ∧ ¬ av (s.fre n) a := by
  have lv : ∀ b, live (s.fre n) b → live s b ∧ b ≠ a := fun b l => by
    obtain ⟨i, v, e1, e2, e3⟩ := l
    have e1 : s.ι[i]? = some b := e1
    have e2 : (s.ah.set n .gone)[i]? = some v := e2
    by_cases hi : n = i
    · subst hi
      rw [List.getElem?_set_self (by rw [← h.len]; exact (List.getElem?_eq_some_iff.mp e).1)] at e2
      exact absurd (Option.some.inj e2).symm e3
    · rw [List.getElem?_set_ne hi] at e2
      exact ⟨⟨i, v, e1, e2, e3⟩, fun q => hi (h.inj n i a e (q ▸ e1))⟩
  have g : Gr s (s.fre n) := ⟨fun _ _ h => h, fun _ _ e _ => .inl e, fun b l => by
    rcases l with l | l
    · exact .inl (.inl (lv b l).1)
    · exact .inl (.inr l)⟩
  refine ⟨⟨rfl, fun _ _ h => h, fun _ _ e _ => .inl e, fun b l => .inl (lv b l).1, fun _ h => h, ⟨by rw [show (s.fre n).ah = s.ah.set n .gone from rfl, List.length_set]; exact h.len, h.inj, h.ne, h.nb, h.dj, fun i b v e1 e2 => ?_⟩⟩, ?_⟩
  · have e2 : (s.ah.set n .gone)[i]? = some v := e2
    have e1 : s.ι[i]? = some b := e1
    by_cases hi : n = i
    · subst hi
      rw [List.getElem?_set_self (by rw [← h.len]; exact (List.getElem?_eq_some_iff.mp e).1)] at e2
      rw [← Option.some.inj e2]
      trivial
    · rw [List.getElem?_set_ne hi] at e2
      exact (h.obj i b v e1 e2).mono g fun w q => q
  · rintro (l | l)
    · exact (lv a l).2 rfl
    · exact h.dj n a e l

/-! ### objects at the end are let go of -/
theorem bdK_eq (n : Nat) : ∀ l : List (Key × D), D.bdK n l = D.bds n (l.map (·.2))
  | [] => rfl
  | (_, d) :: r => by rw [D.bdK, bdK_eq n r]; rfl
theorem bdT_eq (n : Nat) : ∀ l : List (List Key × D), D.bdT n l = D.bds n (l.map (·.2))
  | [] => rfl
  | (_, d) :: r => by rw [D.bdT, bdT_eq n r]; rfl
theorem bdF_eq (n : Nat) : ∀ l : List (Str × D), D.bdF n l = D.bds n (l.map (·.2))
  | [] => rfl
  | (_, d) :: r => by rw [D.bdF, bdF_eq n r]; rfl
mutual
theorem DV.bd {G : Gx} {s : S} : ∀ {d : D} {v : V}, DV G s d v → D.bd s.ι.length d = true
  | _, _, .non => rfl
  | _, _, .bl b => rfl
  | _, _, .int i => rfl
  | _, _, .str x => rfl
  | _, _, .ptr e => by rw [D.bd]; exact decide_eq_true (List.getElem?_eq_some_iff.mp e).1
  | _, _, .tup e n hs => by rw [D.bd]; exact DVs.bd hs
  | _, _, .tupK a b c d e hs => by rw [D.bd]; exact DVs.bd hs
  | _, _, .lst e n hs => by rw [D.bd]; exact DVs.bd hs
  | _, _, .scr e n hs => by rw [D.bd]; exact DVs.bd hs
  | _, _, .scrK e hs => by rw [D.bd]; exact DVs.bd hs
  | _, _, .dic e n hk hs => by rw [D.bd, bdK_eq]; exact DVs.bd hs
  | _, _, .dct e n hk hs => by rw [D.bd, bdT_eq]; exact DVs.bd hs
  | _, _, .ins e hc n hk hs => by rw [D.bd, bdF_eq]; exact DVs.bd hs
theorem DVs.bd {G : Gx} {s : S} : ∀ {l : List D} {vs : List V}, DVs G s l vs → D.bds s.ι.length l = true
  | _, _, .nil => rfl
  | _, _, .cons a b => by rw [D.bds, DV.bd a, DVs.bd b]; rfl
end
structure Cut (N : Nat) (s s' : S) : Prop where
  h : s'.H = s.H
  nav : ∀ a, av s' a → av s a
  pre : ∀ (m : Nat) a, m < N → s.ι[m]? = some a → s'.ι[m]? = some a
mutual
theorem DV.cut {G : Gx} {s s' : S} {N : Nat} (c : Cut N s s') : ∀ {d : D} {v : V}, DV G s d v → D.bd N d = true → DV G s' d v
  | _, _, .non, _ => .non
  | _, _, .bl b, _ => .bl b
  | _, _, .int i, _ => .int i
  | _, _, .str x, _ => .str x
  | _, _, .ptr e, h => .ptr (c.pre _ _ (by rw [D.bd] at h; exact of_decide_eq_true h) e)
  | _, _, .tup e n hs, h => .tup (by rw [c.h]; exact e) (fun q => n (c.nav _ q)) (DVs.cut c hs (by rw [D.bd] at h; exact h))
  | _, _, .tupK a b p d e hs, h => .tupK a b p d e (DVs.cut c hs (by rw [D.bd] at h; exact h))
  | _, _, .lst e n hs, h => .lst (by rw [c.h]; exact e) (fun q => n (c.nav _ q)) (DVs.cut c hs (by rw [D.bd] at h; exact h))
  | _, _, .scr e n hs, h => .scr (by rw [c.h]; exact e) (fun q => n (c.nav _ q)) (DVs.cut c hs (by rw [D.bd] at h; exact h))
  | _, _, .scrK e hs, h => .scrK e (DVs.cut c hs (by rw [D.bd] at h; exact h))
  | _, _, .dic e n hk hs, h => .dic (by rw [c.h]; exact e) (fun q => n (c.nav _ q)) hk (DVs.cut c hs (by rw [D.bd, bdK_eq] at h; exact h))
  | _, _, .dct e n hk hs, h => .dct (by rw [c.h]; exact e) (fun q => n (c.nav _ q)) hk (DVs.cut c hs (by rw [D.bd, bdT_eq] at h; exact h))
  | _, _, .ins e hc n hk hs, h => .ins (by rw [c.h]; exact e) hc (fun q => n (c.nav _ q)) hk (DVs.cut c hs (by rw [D.bd, bdF_eq] at h; exact h))
theorem DVs.cut {G : Gx} {s s' : S} {N : Nat} (c : Cut N s s') : ∀ {l : List D} {vs : List V}, DVs G s l vs → D.bds N l = true → DVs G s' l vs
  | _, _, .nil, _ => .nil
  | _, _, .cons a b, h => by
    rw [D.bds, Bool.and_eq_true] at h
    exact .cons (DV.cut c a h.1) (DVs.cut c b h.2)
end
def AO.bd (n : Nat) : AO → Bool
  | .gone => true
  | .lst l => D.bds n l
  | .dic l => D.bdK n l
  | .dct l => D.bdT n l
  | .ins _ f => D.bdF n f
theorem OV.cut {G : Gx} {s s' : S} {N : Nat} (c : Cut N s s') {a : Addr} : ∀ {o : AO}, OV G s a o → AO.bd N o = true → OV G s' a o
  | .gone, _, _ => trivial
  | .lst _, ⟨vs, x, y⟩, h => ⟨vs, by rw [c.h]; exact x, y.cut c h⟩
  | .dic _, ⟨vs, x, k, y⟩, h => ⟨vs, by rw [c.h]; exact x, k, y.cut c (by rw [AO.bd, bdK_eq] at h; exact h)⟩
  | .dct _, ⟨vs, x, k, y⟩, h => ⟨vs, by rw [c.h]; exact x, k, y.cut c (by rw [AO.bd, bdT_eq] at h; exact h)⟩
  | .ins _ _, ⟨C, dx, fs, x, y, k, w⟩, h => ⟨C, dx, fs, x, by rw [c.h]; exact y, k, w.cut c (by rw [AO.bd, bdF_eq] at h; exact h)⟩
/-- the later objects are let go of: the first ones know nothing of them -/
theorem le_trim {G : Gx} {s s' : S} (ok : Ok G s) (l : Le G s s') (e : (s'.ah.take s.ah.length).all (AO.bd s.ah.length) = true) : Le G s { s' with ι := s.ι, ah := s'.ah.take s.ah.length } ∧ Cut s.ι.length s' { s' with ι := s.ι, ah := s'.ah.take s.ah.length } := by
  have up : s.ι.length ≤ s'.ι.length := Nat.le_of_not_lt fun h => by
    have h1 := l.pre s'.ι.length s.ι[s'.ι.length] (List.getElem?_eq_getElem h)
    rw [List.getElem?_eq_none (Nat.le_refl _)] at h1
    cases h1
  have ix : ∀ (n : Nat) o, (s'.ah.take s.ah.length)[n]? = some o → s'.ah[n]? = some o := fun n o h => by
    rw [List.getElem?_take] at h
    split at h
    · exact h
    · cases h
  have lv : ∀ a, live { s' with ι := s.ι, ah := s'.ah.take s.ah.length } a → live s' a := fun a ⟨n, o, h1, h2, h3⟩ => ⟨n, o, l.pre n a h1, ix n o h2, h3⟩
  have c : Cut s.ι.length s' { s' with ι := s.ι, ah := s'.ah.take s.ah.length } := ⟨rfl, fun a h => by
    rcases h with h | h
    · exact .inl (lv a h)
    · exact .inr h, fun m a hm h => by
      show s.ι[m]? = some a
      obtain ⟨b, hb⟩ : ∃ b, s.ι[m]? = some b := ⟨s.ι[m], List.getElem?_eq_getElem hm⟩
      have := l.pre m b hb
      rw [this] at h
      rw [hb]
      exact h⟩
  refine ⟨⟨l.b, fun _ _ h => h, l.keep, fun a h => l.newl a (lv a h), l.some, ⟨?_, ok.inj, fun n a h => l.ok.ne n a (l.pre n a h), l.ok.nb, fun n a h => l.ok.dj n a (l.pre n a h), fun n a o h1 h2 => ?_⟩⟩, c⟩
  · show s.ι.length = (s'.ah.take s.ah.length).length
    rw [List.length_take, ← l.ok.len, ← ok.len]
    omega
  · exact (l.ok.obj n a o (l.pre n a h1) (ix n o h2)).cut c (by rw [ok.len]; exact List.all_eq_true.mp e o (List.mem_of_getElem? h2))

/-- a dict that is data is locked -/
theorem le_lock {G : Gx} {s : S} (h : Ok G s) {a : Addr} {kvs : List (Key × V)} (e : s.H a = some (.dK kvs)) (nv : ¬ av s a) (od : Obj) : Le G s (s.up a (.frz od (.dK kvs))) := by
  have k : ∀ b u, s.H b = some u → Kept u ((s.up a (.frz od (.dK kvs))).H b) := fun b u eb => by
    by_cases q : b = a
    · subst q
      rw [e] at eb
      cases eb
      exact .inr ⟨od, kvs, rfl, upd_same⟩
    · refine .inl ?_
      show upd s.H a _ b = some u
      rw [upd_ne q]
      exact eb
  have k' : ∀ b, s.H b ≠ none → (s.up a (.frz od (.dK kvs))).H b ≠ none := fun b q => by
    obtain ⟨v, hu⟩ := Option.ne_none_iff_exists'.mp q
    exact (k b v hu).ne
  have g : Gr s (s.up a (.frz od (.dK kvs))) := ⟨fun _ _ h => h, fun b u eb _ => k b u eb, fun _ h => .inl h⟩
  refine ⟨rfl, fun _ _ h => h, fun b u eb _ => k b u eb, fun _ h => .inl h, k', ⟨h.len, h.inj, fun i b eb => k' b (h.ne i b eb), fun b eb => k' b (h.nb b eb), h.dj, fun i b u e1 e2 => ?_⟩⟩
  cases u with
  | gone => trivial
  | _ =>
    refine (h.obj i b _ e1 e2).mono g fun w q => ?_
    show upd s.H a _ b = some w
    rw [upd_ne fun z => nv (.inl ⟨i, _, by rw [← z]; exact e1, e2, fun q => nomatch q⟩)]
    exact q
end MM

set_option linter.all false
set_option maxRecDepth 100000
namespace MM
open PySem L2

abbrev gx (X : Cx) (cl : Str → Option Addr) : Gx := ⟨X.K, cl⟩
abbrev ME := DL → AH → Option (D × AH)
abbrev MT := DL → AH → Option (Bool × AH)
abbrev MA := DL → AH → Option (List D × AH)

def SV (G : Gx) (s : S) (δ : DL) (σ : St) : Prop := δ.length = σ.length ∧ ∀ (i : Nat) d, δ[i]? = some (some d) → ∃ v, σ[i]? = some (some v) ∧ DV G s d v
theorem SV.mono {G : Gx} {s s' : S} (h : Gr s s') {δ : DL} {σ : St} (x : SV G s δ σ) : SV G s' δ σ := ⟨x.1, fun i d e => let ⟨v, a, b⟩ := x.2 i d e; ⟨v, a, b.mono h⟩⟩
theorem SV.le {G : Gx} {s s' : S} (h : Le G s s') {δ : DL} {σ : St} (x : SV G s δ σ) : SV G s' δ σ := x.mono h.gr
theorem SV.set {G : Gx} {s : S} {δ : DL} {σ : St} (x : SV G s δ σ) {d : D} {v : V} (h : DV G s d v) (i : Nat) : SV G s (δ.set i (some d)) (σ.set i (some v)) := by
  refine ⟨by rw [List.length_set, List.length_set]; exact x.1, fun j e hj => ?_⟩
  by_cases hi : i = j
  · subst hi
    have hl : i < δ.length := by
      have := (List.getElem?_eq_some_iff.mp hj).1
      rwa [List.length_set] at this
    rw [List.getElem?_set_self hl] at hj
    refine ⟨v, List.getElem?_set_self (x.1 ▸ hl), ?_⟩
    have : d = e := by simpa using hj
    rw [← this]
    exact h
  · rw [List.getElem?_set_ne hi] at hj ⊢
    exact x.2 j e hj

/-! ### the judgements: the Python refines the mirror -/
def WE (X : Cx) (e : Expr) : TE := fun σ H Q => ∀ (pins : List (Addr × Obj)) (s : Shared), Inv X pins σ H s → wpAny (model X.prog X.w) X.A (eval e X.env) (EP X pins σ Q) X.xe s
def WT (X : Cx) (e : Expr) : TT := fun σ H Q => ∀ (pins : List (Addr × Obj)) (s : Shared), Inv X pins σ H s → wpAny (model X.prog X.w) X.A (isTrue e X.env (eval e X.env)) (TP X pins σ Q) X.xe s
def WA (X : Cx) (es : List Expr) : TA := fun σ H Q => ∀ (pos : Pos) (pins : List (Addr × Obj)) (s : Shared), Inv X pins σ H s → wpAny (model X.prog X.w) X.A (spliced (backTo pos (starEach es X.env))) (AP X pins σ Q) X.xe s
def WS (X : Cx) (st : Stmt) : TS := fun D σ H => ∀ (pins : List (Addr × Obj)) (s : Shared), Inv X pins σ H s → wpAny (model X.prog X.w) X.A (exec st X.env) (SP X pins D) X.xe s
def WSs (X : Cx) (st : List Stmt) : TS := fun D σ H => ∀ (pins : List (Addr × Obj)) (s : Shared), Inv X pins σ H s → wpAny (model X.prog X.w) X.A (execs st X.env) (SP X pins D) X.xe s
def WPW (X : Cx) (e : Expr) : TT := fun σ H Q => ∀ (whole : Sem Value) (pins : List (Addr × Obj)) (s : Shared), Inv X pins σ H s → wpAny (model X.prog X.w) X.A (isTrue e X.env whole) (TP X pins σ Q) X.xe s
section
variable {X : Cx} {e : Expr} {es : List Expr} {st : Stmt} {sts : List Stmt}
theorem peW : PE X e (WE X e) := ⟨fun pins s _ _ _ I h => h pins s I⟩
theorem ptW : PT X e (WT X e) := ⟨fun pins s _ _ _ I h => h pins s I⟩
theorem pwW : PW X e (WPW X e) := ⟨fun w pins s _ _ _ I h => h w pins s I⟩
theorem paW : PA X es (WA X es) := ⟨fun pos pins s _ _ _ I h => h pos pins s I⟩
theorem psW : PS X st (WS X st) := ⟨fun pins s _ _ _ I h => h pins s I⟩
theorem pssW : PSs X sts (WSs X sts) := ⟨fun pins s _ _ _ I h => h pins s I⟩
theorem WE.of {t : TE} (h : PE X e t) {σ : St} {H : Hp} {Q : VK} (q : t σ H Q) : WE X e σ H Q := fun pins s I => h.run pins s σ H Q I q
theorem WT.of {t : TT} (h : PT X e t) {σ : St} {H : Hp} {Q : Bool → Hp → Prop} (q : t σ H Q) : WT X e σ H Q := fun pins s I => h.run pins s σ H Q I q
theorem WPW.of {t : TT} (h : PW X e t) {σ : St} {H : Hp} {Q : Bool → Hp → Prop} (q : t σ H Q) : WPW X e σ H Q := fun w pins s I => h.run w pins s σ H Q I q
theorem WA.of {t : TA} (h : PA X es t) {σ : St} {H : Hp} {Q : List V → Hp → Prop} (q : t σ H Q) : WA X es σ H Q := fun pos pins s I => h.run pos pins s σ H Q I q
theorem WS.of {t : TS} (h : PS X st t) {σ : St} {H : Hp} {D : Ends} (q : t D σ H) : WS X st D σ H := fun pins s I => h.run pins s σ H D I q
theorem WSs.of {t : TS} (h : PSs X sts t) {σ : St} {H : Hp} {D : Ends} (q : t D σ H) : WSs X sts D σ H := fun pins s I => h.run pins s σ H D I q
end
section
variable (X : Cx) (cl : Str → Option Addr)
def RE (e : Expr) (m : ME) : Prop := ∀ (δ : DL) (s : S) (σ : St) (d : D) (ah' : AH) (Q : VK), m δ s.ah = some (d, ah') → Ok (gx X cl) s → SV (gx X cl) s δ σ →
  (∀ s' v, Le (gx X cl) s s' → s'.ah = ah' → DV (gx X cl) s' d v → Q v s'.H) → WE X e σ s.H Q
def RT (e : Expr) (m : MT) : Prop := ∀ (δ : DL) (s : S) (σ : St) (b : Bool) (ah' : AH) (Q : Bool → Hp → Prop), m δ s.ah = some (b, ah') → Ok (gx X cl) s → SV (gx X cl) s δ σ →
  (∀ s', Le (gx X cl) s s' → s'.ah = ah' → Q b s'.H) → WT X e σ s.H Q
def RW (e : Expr) (m : MT) : Prop := ∀ (δ : DL) (s : S) (σ : St) (b : Bool) (ah' : AH) (Q : Bool → Hp → Prop), m δ s.ah = some (b, ah') → Ok (gx X cl) s → SV (gx X cl) s δ σ →
  (∀ s', Le (gx X cl) s s' → s'.ah = ah' → Q b s'.H) → WPW X e σ s.H Q
def RA (es : List Expr) (m : MA) : Prop := ∀ (δ : DL) (s : S) (σ : St) (ds : List D) (ah' : AH) (Q : List V → Hp → Prop), m δ s.ah = some (ds, ah') → Ok (gx X cl) s → SV (gx X cl) s δ σ →
  (∀ s' vs, Le (gx X cl) s s' → s'.ah = ah' → DVs (gx X cl) s' ds vs → Q vs s'.H) → WA X es σ s.H Q
/-- a new list of these items, nobody else's -/
def RF (e : Expr) (m : MA) : Prop := ∀ (δ : DL) (s : S) (σ : St) (ds : List D) (ah' : AH) (Q : VK), m δ s.ah = some (ds, ah') → Ok (gx X cl) s → SV (gx X cl) s δ σ →
  (∀ s1 p vs, Le (gx X cl) s s1 → s1.ah = ah' → s1.H p = none → DVs (gx X cl) s1 ds vs → Q (.ref p) (upd s1.H p (.lst vs))) → WE X e σ s.H Q
/-- a new dict -/
def RD (e : Expr) (m : DL → AH → Option (List (Key × D) × AH)) : Prop := ∀ (δ : DL) (s : S) (σ : St) (ds : List (Key × D)) (ah' : AH) (Q : VK), m δ s.ah = some (ds, ah') → Ok (gx X cl) s → SV (gx X cl) s δ σ →
  (∀ s1 p kvs, Le (gx X cl) s s1 → s1.ah = ah' → s1.H p = none → kvs.map (·.1) = ds.map (·.1) → DVs (gx X cl) s1 (ds.map (·.2)) (kvs.map (·.2)) → Q (.ref p) (upd s1.H p (.dK kvs))) → WE X e σ s.H Q
end

/-! ### mirrors of expressions -/
def eVar (i : Nat) : ME := fun δ ah => match δ[i]? with | some (some d) => some (d, ah) | _ => none
def eC (d : D) : ME := fun _ ah => some (d, ah)
def eBin (g : AH → D → D → Option D) (a b : ME) : ME := fun δ ah => (a δ ah).bind fun p => (b δ p.2).bind fun q => (g q.2 p.1 q.1).map fun d => (d, q.2)
def eFrz (m : MA) : ME := fun δ ah => (m δ ah).map fun p => (.lst p.1, p.2)
def eOwn (m : MA) : ME := fun δ ah => (m δ ah).map fun p => (.ptr p.2.length, p.2 ++ [.lst p.1])
def eFrzD (m : DL → AH → Option (List (Key × D) × AH)) : ME := fun δ ah => (m δ ah).map fun p => (.dic p.1, p.2)
def eOwnD (m : DL → AH → Option (List (Key × D) × AH)) : ME := fun δ ah => (m δ ah).map fun p => (.ptr p.2.length, p.2 ++ [.dic p.1])
def aNil : MA := fun _ ah => some ([], ah)
def aCons (a : ME) (r : MA) : MA := fun δ ah => (a δ ah).bind fun p => (r δ p.2).map fun q => (p.1 :: q.1, q.2)
def eTup (m : MA) : ME := fun δ ah => (m δ ah).bind fun p => if p.1.length ≤ 10000 then some (.tup p.1, p.2) else none
def fLst (m : MA) : MA := fun δ ah => (m δ ah).bind fun p => if p.1.length ≤ 10000 then some p else none
section
variable {X : Cx} {cl : Str → Option Addr} {e : Expr} {es : List Expr} {pos : Pos} {m : ME} {ma : MA}
theorem re_var (i : Nat) {x : Str} (hN : X.N[i]? = some x := by rfl) (hv : Vis X.env.scope x := by first | exact Or.inl rfl | exact Or.inr (Or.inl rfl) | exact Or.inr (Or.inr rfl)) (hd : (x == ("__debug__" : Str)) = false := by decide)
    (hcd : (x == ("__classdict__" : Str)) = false := by decide) : RE X cl (.Name x pos) (eVar i) := fun δ s σ d ah' Q h ok sv q => by
  unfold eVar at h
  split at h
  · rename_i d' e
    obtain ⟨rfl, rfl⟩ := Prod.mk.inj (Option.some.inj h)
    obtain ⟨v, hv', hd'⟩ := sv.2 i _ e
    exact WE.of (pe_var (i := i) hN hv hd hcd) ⟨v, hv', q s v (Le.refl ok) rfl hd'⟩
  · cases h
theorem re_of {d : D} {v : V} (h : PE X e (tC v)) (hd : ∀ s, DV (gx X cl) s d v) : RE X cl e (eC d) := fun δ s σ d' ah' Q h' ok sv q => by
  obtain ⟨rfl, rfl⟩ := Prod.mk.inj (Option.some.inj h')
  exact WE.of h (q s v (Le.refl ok) rfl (hd s))
theorem re_int {i j} : RE X cl (.Constant (.int i) j pos) (eC (.int i)) := re_of pe_int fun _ => .int i
theorem re_bl {i j} : RE X cl (.Constant (.bool i) j pos) (eC (.bl i)) := re_of pe_bl fun _ => .bl i
theorem re_non {j} : RE X cl (.Constant .none j pos) (eC .non) := re_of pe_non fun _ => .non
theorem re_str {x j} : RE X cl (.Constant (.str x) j pos) (eC (.str x)) := re_of pe_str fun _ => .str x
/-- a constant of a module -/
def Gc (K : PySem.W.Frag) (mg : Str → Option Value) (x : Str) (d : D) : Prop := ∃ u v, mg x = some u ∧ RelV v u ∧ ∀ (cl : Str → Option Addr) s, DV ⟨K, cl⟩ s d v
theorem re_glob {x : Str} {d : D} (hc : Gc X.K X.mg x d) (hg : Gl X x := by rfl) (hd : (x == ("__debug__" : Str)) = false := by decide) : RE X cl (.Name x pos) (eC d) := by
  obtain ⟨u, v, h1, h2, h3⟩ := hc
  exact re_of (pe_glob hg h1 h2 hd) fun s => h3 cl s
/-! ### arguments, displays -/
theorem ra_nil : RA X cl [] aNil := fun δ s σ d ah' Q h ok sv q => by
  obtain ⟨rfl, rfl⟩ := Prod.mk.inj (Option.some.inj h)
  exact WA.of pa_nil (q s [] (Le.refl ok) rfl .nil)
theorem ra_cons (ha : RE X cl e m) (hr : RA X cl es ma) (hs : starEach (e :: es) X.env = (false, eval e X.env) :: starEach es X.env := by rfl) : RA X cl (e :: es) (aCons m ma) := fun δ s σ d ah' Q h ok sv q => by
  obtain ⟨p, h1, h2⟩ := Option.bind_eq_some_iff.mp h
  obtain ⟨r, h3, h4⟩ := Option.map_eq_some_iff.mp h2
  obtain ⟨rfl, rfl⟩ := Prod.mk.inj h4
  refine WA.of (pa_cons peW paW hs) (ha δ s σ p.1 p.2 _ h1 ok sv fun s1 v l1 e1 d1 => ?_)
  exact hr δ s1 σ r.1 r.2 _ (by rw [e1]; exact h3) l1.ok (sv.le l1) fun s2 vs l2 e2 d2 => q s2 (v :: vs) (l1.trans l2) e2 (.cons (d1.le l2) d2)
theorem DVs.len {G : Gx} {s : S} : ∀ {l : List D} {vs : List V}, DVs G s l vs → l.length = vs.length
  | _, _, .nil => rfl
  | _, _, .cons _ t => by rw [List.length_cons, List.length_cons, DVs.len t]
theorem line10k : (10000 : Nat) ≤ sizeLine := by decide
theorem re_tup {x1} (ha : RA X cl es ma) : RE X cl (.Tuple es x1 pos) (eTup ma) := fun δ s σ d ah' Q h ok sv q => by
  obtain ⟨p, h1, h2⟩ := Option.bind_eq_some_iff.mp h
  split at h2
  · rename_i hl
    obtain ⟨rfl, rfl⟩ := Prod.mk.inj (Option.some.inj h2)
    refine WE.of (pe_tup paW) (ha δ s σ p.1 p.2 _ h1 ok sv fun s1 vs l1 e1 d1 => ⟨Nat.le_trans (d1.len ▸ hl) line10k, fun t ht => ?_⟩)
    have l2 := le_new l1.ok ht (.tup vs)
    exact q (s1.up t (.tup vs)) _ (l1.trans l2) e1 (.tup (.inl upd_same) (fun a => (l1.ok.nav ht) a) (d1.le l2))
  · cases h2
theorem rf_lst (ha : RA X cl es ma) : RF X cl (.List es pos) (fLst ma) := fun δ s σ d ah' Q h ok sv q => by
  obtain ⟨p, h1, h2⟩ := Option.bind_eq_some_iff.mp h
  split at h2
  · rename_i hl
    obtain ⟨rfl, rfl⟩ := Prod.mk.inj (Option.some.inj h2)
    exact WE.of (pe_lst paW) (ha δ s σ p.1 p.2 _ h1 ok sv fun s1 vs l1 e1 d1 => ⟨Nat.le_trans (d1.len ▸ hl) line10k, fun t ht => q s1 t vs l1 e1 ht d1⟩)
  · cases h2
/-- a new list, taken as data; as a mutable object -/
theorem re_frz (h : RF X cl e ma) : RE X cl e (eFrz ma) := fun δ s σ d ah' Q h' ok sv q => by
  obtain ⟨p, h1, h2⟩ := Option.map_eq_some_iff.mp h'
  obtain ⟨rfl, rfl⟩ := Prod.mk.inj h2
  exact h δ s σ p.1 p.2 Q h1 ok sv fun s1 t vs l1 e1 ht d1 => q (s1.up t (.lst vs)) _ (l1.trans (le_new l1.ok ht _)) e1 (.lst upd_same (fun a => (l1.ok.nav ht) a) (d1.le (le_new l1.ok ht _)))
theorem re_own (h : RF X cl e ma) : RE X cl e (eOwn ma) := fun δ s σ d ah' Q h' ok sv q => by
  obtain ⟨p, h1, h2⟩ := Option.map_eq_some_iff.mp h'
  obtain ⟨rfl, rfl⟩ := Prod.mk.inj h2
  refine h δ s σ p.1 p.2 Q h1 ok sv fun s1 t vs l1 e1 ht d1 => ?_
  have l2 : Le (gx X cl) s1 (s1.add t (.lst p.1) (.lst vs)) := le_add l1.ok ht ⟨vs, upd_same, d1.mono (gr_add l1.ok ht _ _)⟩
  refine q (s1.add t (.lst p.1) (.lst vs)) _ (l1.trans l2) (by rw [← e1]; rfl) (.ptr ?_)
  show (s1.ι ++ [t])[p.2.length]? = some t
  rw [← e1, ← l1.ok.len]
  exact List.getElem?_concat_length
theorem re_frzD {md} (h : RD X cl e md) : RE X cl e (eFrzD md) := fun δ s σ d ah' Q h' ok sv q => by
  obtain ⟨p, h1, h2⟩ := Option.map_eq_some_iff.mp h'
  obtain ⟨rfl, rfl⟩ := Prod.mk.inj h2
  exact h δ s σ p.1 p.2 Q h1 ok sv fun s1 t vs l1 e1 ht hk d1 => q (s1.up t (.dK vs)) _ (l1.trans (le_new l1.ok ht _)) e1 (.dic (.inl upd_same) (fun a => (l1.ok.nav ht) a) hk (d1.le (le_new l1.ok ht _)))
theorem re_ownD {md} (h : RD X cl e md) : RE X cl e (eOwnD md) := fun δ s σ d ah' Q h' ok sv q => by
  obtain ⟨p, h1, h2⟩ := Option.map_eq_some_iff.mp h'
  obtain ⟨rfl, rfl⟩ := Prod.mk.inj h2
  refine h δ s σ p.1 p.2 Q h1 ok sv fun s1 t vs l1 e1 ht hk d1 => ?_
  have l2 : Le (gx X cl) s1 (s1.add t (.dic p.1) (.dK vs)) := le_add l1.ok ht ⟨vs, upd_same, hk, d1.mono (gr_add l1.ok ht _ _)⟩
  refine q (s1.add t (.dic p.1) (.dK vs)) _ (l1.trans l2) (by rw [← e1]; rfl) (.ptr ?_)
  show (s1.ι ++ [t])[p.2.length]? = some t
  rw [← e1, ← l1.ok.len]
  exact List.getElem?_concat_length
end
end MM

set_option linter.all false
set_option maxRecDepth 100000
namespace MM
open PySem L2

/-! ### views -/
def asL (ah : AH) : D → Option (List D)
  | .lst l => some l
  | .ptr n => match ah[n]? with | some (.lst l) => some l | _ => none
  | _ => none
/-- a list that is only read -/
def asR (ah : AH) : D → Option (List D)
  | .lst l => some l
  | .scr l => some l
  | .ptr n => match ah[n]? with | some (.lst l) => some l | _ => none
  | _ => none
def asK (ah : AH) : D → Option (List (Key × D))
  | .dic l => some l
  | .ptr n => match ah[n]? with | some (.dic l) => some l | _ => none
  | _ => none
section
variable {G : Gx} {s : S} {d : D} {v : V} {l : List D}
theorem ptr_at {n : Nat} (h : DV G s (.ptr n) v) : ∃ a, s.ι[n]? = some a ∧ v = .ref a := by
  cases h with
  | ptr e => exact ⟨_, e, rfl⟩
theorem asL_view (h : asL s.ah d = some l) (ok : Ok G s) (x : DV G s d v) : ∃ a vs, v = .ref a ∧ s.H a = some (.lst vs) ∧ DVs G s l vs := by
  cases d with
  | lst m =>
    obtain rfl : m = l := by simpa [asL] using h
    cases x with
    | lst e _ hs => exact ⟨_, _, rfl, e, hs⟩
  | ptr n =>
    obtain ⟨a, e, rfl⟩ := ptr_at x
    cases q : s.ah[n]? with
    | none => rw [asL, q] at h; cases h
    | some o =>
      cases o with
      | lst m =>
        rw [asL, q] at h
        obtain rfl : m = l := by simpa using h
        obtain ⟨vs, h1, h2⟩ := ok.obj n a _ e q
        exact ⟨a, vs, rfl, h1, h2⟩
      | _ => rw [asL, q] at h; cases h
  | _ => cases h
theorem asR_view (h : asR s.ah d = some l) (ok : Ok G s) (x : DV G s d v) : ∃ a vs, v = .ref a ∧ SqL G.K s.H a vs ∧ DVs G s l vs := by
  cases d with
  | scr m =>
    obtain rfl : m = l := by simpa [asR] using h
    cases x with
    | scr e _ hs => exact ⟨_, _, rfl, .inl e, hs⟩
    | scrK e hs => exact ⟨_, _, rfl, .inr e, hs⟩
  | lst m =>
    obtain ⟨a, vs, e, h1, h2⟩ := asL_view (l := l) (d := .lst m) h ok x
    exact ⟨a, vs, e, .inl (.inl h1), h2⟩
  | ptr n =>
    obtain ⟨a, vs, e, h1, h2⟩ := asL_view (l := l) (d := .ptr n) h ok x
    exact ⟨a, vs, e, .inl (.inl h1), h2⟩
  | _ => cases h
theorem tup_view (x : DV G s (.tup l) v) : ∃ a vs, v = .ref a ∧ SqT G.K s.H a vs ∧ DVs G s l vs := by
  cases x with
  | tup h _ hs => exact ⟨_, _, rfl, .inl h, hs⟩
  | tupK a b c d e hs => exact ⟨_, _, rfl, .inr ⟨_, _, _, a, b, c, d, e⟩, hs⟩
theorem asK_view {l : List (Key × D)} (h : asK s.ah d = some l) (ok : Ok G s) (x : DV G s d v) : ∃ a kvs, v = .ref a ∧ Rd s.H a (.dK kvs) ∧ kvs.map (·.1) = l.map (·.1) ∧ DVs G s (l.map (·.2)) (kvs.map (·.2)) := by
  cases d with
  | dic m =>
    obtain rfl : m = l := by simpa [asK] using h
    cases x with
    | dic e _ hk hs => exact ⟨_, _, rfl, e, hk, hs⟩
  | ptr n =>
    obtain ⟨a, e, rfl⟩ := ptr_at x
    cases q : s.ah[n]? with
    | none => rw [asK, q] at h; cases h
    | some o =>
      cases o with
      | dic m =>
        rw [asK, q] at h
        obtain rfl : m = l := by simpa using h
        obtain ⟨vs, h1, h2, h3⟩ := ok.obj n a _ e q
        exact ⟨a, vs, rfl, .inl h1, h2, h3⟩
      | _ => rw [asK, q] at h; cases h
  | _ => cases h
theorem DVs.get : ∀ {l : List D} {vs : List V} {i : Nat} {d : D}, DVs G s l vs → l[i]? = some d → ∃ v, vs[i]? = some v ∧ DV G s d v
  | _, _, _, _, .nil, h => by simp at h
  | _, _, 0, _, .cons a _, h => ⟨_, rfl, by simp at h; rw [← h]; exact a⟩
  | _, _, i + 1, _, .cons _ b, h => by
    obtain ⟨v, h1, h2⟩ := DVs.get (i := i) b (by simpa using h)
    exact ⟨v, by simpa using h1, h2⟩
theorem DVs.append : ∀ {l m : List D} {vs ws : List V}, DVs G s l vs → DVs G s m ws → DVs G s (l ++ m) (vs ++ ws)
  | _, _, _, _, .nil, h => h
  | _, _, _, _, .cons a b, h => .cons a (b.append h)
theorem DVs.take : ∀ {l : List D} {vs : List V} (n : Nat), DVs G s l vs → DVs G s (l.take n) (vs.take n)
  | _, _, 0, _ => by simpa using DVs.nil
  | _, _, n + 1, .nil => by simpa using DVs.nil
  | _, _, n + 1, .cons a b => .cons a (b.take n)
theorem DVs.drop : ∀ {l : List D} {vs : List V} (n : Nat), DVs G s l vs → DVs G s (l.drop n) (vs.drop n)
  | _, _, 0, h => by simpa using h
  | _, _, n + 1, .nil => by simpa using DVs.nil
  | _, _, n + 1, .cons a b => b.drop n
theorem DVs.reverse {l : List D} {vs : List V} (h : DVs G s l vs) : DVs G s l.reverse vs.reverse := by
  induction l generalizing vs with
  | nil => cases h; exact .nil
  | cons d r ih =>
    cases h with
    | cons a b =>
      rw [List.reverse_cons, List.reverse_cons]
      exact (ih b).append (.cons a .nil)
theorem DVs.rep {l : List D} {vs : List V} (h : DVs G s l vs) : ∀ k : Nat, DVs G s (List.replicate k l).flatten (List.replicate k vs).flatten
  | 0 => .nil
  | k + 1 => by
    rw [List.replicate_succ, List.replicate_succ, List.flatten_cons, List.flatten_cons]
    exact h.append (h.rep k)
theorem DVs.set {v : V} {d : D} (hd : DV G s d v) : ∀ {l : List D} {vs : List V} (i : Nat), DVs G s l vs → DVs G s (l.set i d) (vs.set i v)
  | _, _, _, .nil => .nil
  | _, _, 0, .cons _ b => .cons hd b
  | _, _, i + 1, .cons a b => .cons a (DVs.set hd i b)
theorem DVs.eraseIdx : ∀ {l : List D} {vs : List V} (i : Nat), DVs G s l vs → DVs G s (l.eraseIdx i) (vs.eraseIdx i)
  | _, _, _, .nil => .nil
  | _, _, 0, .cons _ b => b
  | _, _, i + 1, .cons a b => .cons a (DVs.eraseIdx i b)
theorem DVs.insertIdx {v : V} {d : D} (hd : DV G s d v) : ∀ {l : List D} {vs : List V} (i : Nat), DVs G s l vs → DVs G s (l.insertIdx i d) (vs.insertIdx i v)
  | _, _, 0, h => by simpa using DVs.cons hd h
  | _, _, i + 1, .nil => by simpa using DVs.nil
  | _, _, i + 1, .cons a b => by
    rw [List.insertIdx_succ_cons, List.insertIdx_succ_cons]
    exact .cons a (DVs.insertIdx hd i b)
theorem DVs.dropLast {l : List D} {vs : List V} (h : DVs G s l vs) : DVs G s l.dropLast vs.dropLast := by
  rw [List.dropLast_eq_take, List.dropLast_eq_take, ← h.len]
  exact h.take _
end

/-! ### two-place operations -/
section
variable (X : Cx) (cl : Str → Option Addr)
def OpS (f : Value → Value → Sem Value) (g : AH → D → D → Option D) : Prop := ∀ (s : S) (x y : V) (d1 d2 d : D) (Q : VK), g s.ah d1 d2 = some d → Ok (gx X cl) s → DV (gx X cl) s d1 x → DV (gx X cl) s d2 y →
  (∀ s' v, Le (gx X cl) s s' → s'.ah = s.ah → DV (gx X cl) s' d v → Q v s'.H) → ∃ r : R2, OpR X f r ∧ r x y s.H Q
end
theorem opr_any {X : Cx} {f : Value → Value → Sem Value} : OpR X f (fun x y H Q => ∃ r : R2, OpR X f r ∧ r x y H Q) := fun pins s σ H x y v u Q I rx ry ⟨r, h, q⟩ => h pins s σ H x y v u Q I rx ry q
section
variable {X : Cx} {cl : Str → Option Addr} {a b c : Expr} {pos : Pos} {ma mb mc : ME}
theorem re_bin {op : Operator} {g : AH → D → D → Option D} (ho : OpS X cl (binaryOp op) g) (ha : RE X cl a ma) (hb : RE X cl b mb) : RE X cl (.BinOp a op b pos) (eBin g ma mb) := fun δ s σ d ah' Q h ok sv q => by
  obtain ⟨p, h1, h2⟩ := Option.bind_eq_some_iff.mp h
  obtain ⟨r, h3, h4⟩ := Option.bind_eq_some_iff.mp h2
  obtain ⟨d', h5, h6⟩ := Option.map_eq_some_iff.mp h4
  obtain ⟨rfl, rfl⟩ := Prod.mk.inj h6
  refine WE.of (pe_op opr_any peW peW) (ha δ s σ p.1 p.2 _ h1 ok sv fun s1 x l1 e1 d1 => hb δ s1 σ r.1 r.2 _ (by rw [e1]; exact h3) l1.ok (sv.le l1) fun s2 y l2 e2 d2 => ?_)
  exact ho s2 x y p.1 r.1 d' Q (by rw [e2]; exact h5) l2.ok (d1.le l2) d2 fun s3 v l3 e3 d3 => q s3 v (l1.trans (l2.trans l3)) (e3.trans e2) d3
/-- a comparison as a value -/
theorem re_cmp {op : CmpOp} {g : AH → D → D → Option D} (ho : OpS X cl (compareOp op) g) (ha : RE X cl a ma) (hb : RE X cl b mb) (hm : behindInMarks op b = false) : RE X cl (.Compare a [op] [b] pos) (eBin g ma mb) := fun δ s σ d ah' Q h ok sv q => by
  obtain ⟨p, h1, h2⟩ := Option.bind_eq_some_iff.mp h
  obtain ⟨r, h3, h4⟩ := Option.bind_eq_some_iff.mp h2
  obtain ⟨d', h5, h6⟩ := Option.map_eq_some_iff.mp h4
  obtain ⟨rfl, rfl⟩ := Prod.mk.inj h6
  refine WE.of (pe_cmpR opr_any peW peW hm) (ha δ s σ p.1 p.2 _ h1 ok sv fun s1 x l1 e1 d1 => hb δ s1 σ r.1 r.2 _ (by rw [e1]; exact h3) l1.ok (sv.le l1) fun s2 y l2 e2 d2 => ?_)
  exact ho s2 x y p.1 r.1 d' Q (by rw [e2]; exact h5) l2.ok (d1.le l2) d2 fun s3 v l3 e3 d3 => q s3 v (l1.trans (l2.trans l3)) (e3.trans e2) d3
/-- as a test -/
def tOf (m : ME) : MT := fun δ ah => (m δ ah).bind fun p => match p.1 with | .bl b => some (b, p.2) | _ => none
theorem rt_cmp {op : CmpOp} {g : AH → D → D → Option D} (ho : OpS X cl (compareOp op) g) (ha : RE X cl a ma) (hb : RE X cl b mb) (hm : behindInMarks op b = false) : RT X cl (.Compare a [op] [b] pos) (tOf (eBin g ma mb)) := fun δ s σ d ah' Q h ok sv q => by
  obtain ⟨z, h, hz⟩ := Option.bind_eq_some_iff.mp h
  obtain ⟨p, h1, h2⟩ := Option.bind_eq_some_iff.mp h
  obtain ⟨r, h3, h4⟩ := Option.bind_eq_some_iff.mp h2
  obtain ⟨d', h5, rfl⟩ := Option.map_eq_some_iff.mp h4
  cases d' with
  | bl c =>
    obtain ⟨rfl, rfl⟩ := Prod.mk.inj (Option.some.inj hz)
    refine WT.of (pt_cmpR opr_any peW peW hm) (ha δ s σ p.1 p.2 _ h1 ok sv fun s1 x l1 e1 d1 => hb δ s1 σ r.1 r.2 _ (by rw [e1]; exact h3) l1.ok (sv.le l1) fun s2 y l2 e2 d2 => ?_)
    refine ho s2 x y p.1 r.1 _ _ (by rw [e2]; exact h5) l2.ok (d1.le l2) d2 fun s3 v l3 e3 d3 => ?_
    cases d3
    exact ⟨c, rfl, q s3 (l1.trans (l2.trans l3)) (e3.trans e2)⟩
  | _ => cases hz
/-- a op b op' c -/
def eChain (g g' : AH → D → D → Option D) (a b c : ME) : ME := fun δ ah => (a δ ah).bind fun p => (b δ p.2).bind fun q => (g q.2 p.1 q.1).bind fun z => match z with
  | .bl true => (c δ q.2).bind fun r => (g' r.2 q.1 r.1).map fun d => (d, r.2)
  | .bl false => some (.bl false, q.2)
  | _ => none
theorem chain_core {op op' : CmpOp} {g g' : AH → D → D → Option D} (ho : OpS X cl (compareOp op) g) (ho' : OpS X cl (compareOp op') g') (ha : RE X cl a ma) (hb : RE X cl b mb) (hc : RE X cl c mc)
    {δ : DL} {s : S} {σ : St} {d : D} {ah' : AH} {Q : VK} (h : eChain g g' ma mb mc δ s.ah = some (d, ah')) (ok : Ok (gx X cl) s) (sv : SV (gx X cl) s δ σ) (q : ∀ s' v, Le (gx X cl) s s' → s'.ah = ah' → DV (gx X cl) s' d v → Q v s'.H) :
    tChain (fun x y H Q => ∃ r : R2, OpR X (compareOp op) r ∧ r x y H Q) (fun x y H Q => ∃ r : R2, OpR X (compareOp op') r ∧ r x y H Q) (WE X a) (WE X b) (WE X c) σ s.H Q := by
  obtain ⟨p, h1, h2⟩ := Option.bind_eq_some_iff.mp h
  obtain ⟨r, h3, h4⟩ := Option.bind_eq_some_iff.mp h2
  obtain ⟨z, h5, h6⟩ := Option.bind_eq_some_iff.mp h4
  refine ha δ s σ p.1 p.2 _ h1 ok sv fun s1 x l1 e1 d1 => hb δ s1 σ r.1 r.2 _ (by rw [e1]; exact h3) l1.ok (sv.le l1) fun s2 y l2 e2 d2 => ?_
  refine ho s2 x y p.1 r.1 z _ (by rw [e2]; exact h5) l2.ok (d1.le l2) d2 fun s3 v l3 e3 d3 => ?_
  cases z with
  | bl k =>
    cases d3
    refine ⟨k, rfl, ?_⟩
    cases k with
    | true =>
      rw [if_pos rfl]
      obtain ⟨t, h7, h8⟩ := Option.bind_eq_some_iff.mp h6
      obtain ⟨d', h9, h10⟩ := Option.map_eq_some_iff.mp h8
      obtain ⟨rfl, rfl⟩ := Prod.mk.inj h10
      refine hc δ s3 σ t.1 t.2 _ (by rw [e3, e2]; exact h7) l3.ok (((sv.le l1).le l2).le l3) fun s4 w l4 e4 d4 => ?_
      exact ho' s4 y w r.1 t.1 d' Q (by rw [e4]; exact h9) l4.ok ((d2.le l3).le l4) d4 fun s5 u l5 e5 d5 => q s5 u (l1.trans (l2.trans (l3.trans (l4.trans l5)))) (e5.trans e4) d5
    | false =>
      rw [if_neg Bool.false_ne_true]
      obtain ⟨rfl, rfl⟩ := Prod.mk.inj (Option.some.inj h6)
      exact q s3 _ (l1.trans (l2.trans l3)) (e3.trans e2) (.bl false)
  | _ => cases h6
theorem re_chain {op op' : CmpOp} {g g' : AH → D → D → Option D} (ho : OpS X cl (compareOp op) g) (ho' : OpS X cl (compareOp op') g') (ha : RE X cl a ma) (hb : RE X cl b mb) (hc : RE X cl c mc) (hm : lastMarks [op, op'] [b, c] = false := by with_unfolding_all rfl) :
    RE X cl (.Compare a [op, op'] [b, c] pos) (eChain g g' ma mb mc) := fun δ s σ d ah' Q h ok sv q => WE.of (pe_chain opr_any opr_any peW peW peW hm) (chain_core ho ho' ha hb hc h ok sv q)
theorem rt_chain {op op' : CmpOp} {g g' : AH → D → D → Option D} (ho : OpS X cl (compareOp op) g) (ho' : OpS X cl (compareOp op') g') (ha : RE X cl a ma) (hb : RE X cl b mb) (hc : RE X cl c mc) (hm : lastMarks [op, op'] [b, c] = false := by with_unfolding_all rfl) :
    RT X cl (.Compare a [op, op'] [b, c] pos) (tOf (eChain g g' ma mb mc)) := fun δ s σ d ah' Q h ok sv q => by
  obtain ⟨z, h0, hz⟩ := Option.bind_eq_some_iff.mp h
  obtain ⟨zd, za⟩ := z
  cases zd with
  | bl k =>
    obtain ⟨rfl, rfl⟩ := Prod.mk.inj (Option.some.inj hz)
    refine WT.of (pt_chain opr_any opr_any peW peW peW hm) (chain_core ho ho' ha hb hc h0 ok sv fun s' v l e dv => ?_)
    cases dv
    exact ⟨k, rfl, q s' l e⟩
  | _ => cases hz
end

/-! ### the operators -/
def gI (f : Int → Int → D) : AH → D → D → Option D := fun _ x y => match x, y with | .int i, .int j => some (f i j) | _, _ => none
def gIc (c : Int → Int → Bool) (f : Int → Int → D) : AH → D → D → Option D := fun _ x y => match x, y with | .int i, .int j => if c i j = true then some (f i j) else none | _, _ => none
def gAdd : AH → D → D → Option D := fun ah x y => match x, y with
  | .int i, .int j => some (.int (i + j))
  | .str a, .str b => if a.length + b.length ≤ 100000 then some (.str (a ++ b)) else none
  | .tup _, _ => none
  | x, y => (asL ah x).bind fun l => (asL ah y).bind fun m => if l.length + m.length ≤ 100000 then some (.lst (l ++ m)) else none
def repS (x : Str) (n : Int) : Str := ⟨(List.replicate n.toNat x.cps.toList).flatten.toArray⟩
def gMul : AH → D → D → Option D := fun ah x y => match x, y with
  | .int i, .int j => if (-(2 ^ 64) < i ∧ i < 2 ^ 64) ∨ (-(2 ^ 64) < j ∧ j < 2 ^ 64) then some (.int (i * j)) else none
  | .str a, .int n => if 0 ≤ n ∧ n ≤ 1000 ∧ a.length ≤ 1000 then some (.str (repS a n)) else none
  | .int _, _ => none
  | .tup _, _ => none
  | x, .int n => (asL ah x).bind fun l => if 0 ≤ n ∧ n ≤ 1000 ∧ l.length ≤ 1000 then some (.lst (List.replicate n.toNat l).flatten) else none
  | _, _ => none
section
variable {X : Cx} {cl : Str → Option Addr}
theorem op_int {f : Value → Value → Sem Value} {g : Int → Int → V} {g' : Int → Int → D} (h : OpR X f (rI0 g)) (hd : ∀ i j s, DV (gx X cl) s (g' i j) (g i j)) : OpS X cl f (gI g') := fun s x y d1 d2 d Q e ok h1 h2 q => by
  cases h1 <;> try (cases e)
  cases h2 <;> try (cases e)
  exact ⟨_, h, _, _, rfl, rfl, q s _ (Le.refl ok) rfl (hd _ _ _)⟩
theorem op_intc {f : Value → Value → Sem Value} {C : Int → Int → Prop} {c : Int → Int → Bool} {g : Int → Int → V} {g' : Int → Int → D} (h : OpR X f (rI C g)) (hc : ∀ i j, c i j = true → C i j) (hd : ∀ i j s, DV (gx X cl) s (g' i j) (g i j)) : OpS X cl f (gIc c g') := fun s x y d1 d2 d Q e ok h1 h2 q => by
  cases h1 <;> try (cases e)
  cases h2 <;> try (cases e)
  rename_i i j
  have e : (if c i j = true then some (g' i j) else none) = some d := e
  split at e
  · rename_i k
    cases e
    exact ⟨_, h, i, j, rfl, rfl, hc i j k, q s _ (Le.refl ok) rfl (hd _ _ _)⟩
  · cases e
abbrev gSub := gI fun i j => .int (i - j)
theorem os_sub : OpS X cl (binaryOp .Sub) gSub := op_int op_sub fun _ _ _ => .int _
abbrev gMod := gIc (fun _ j => decide (0 < j)) fun i j => .int (i % j)
theorem os_mod : OpS X cl (binaryOp .Mod) gMod := op_intc op_mod (fun _ _ h => of_decide_eq_true h) fun _ _ _ => .int _
abbrev gDiv := gIc (fun _ j => decide (0 < j) && decide (j.natAbs.log2 < 9000)) fun i j => .int (i / j)
theorem os_fdiv : OpS X cl (binaryOp .FloorDiv) gDiv := op_intc op_fdivW (fun i j h => by
  simp only [Bool.and_eq_true, decide_eq_true_eq] at h
  exact h) fun _ _ _ => .int _
abbrev gAnd := gI fun i j => .int (Builtin.bitAnd i j)
theorem os_and : OpS X cl (binaryOp .BitAnd) gAnd := op_int op_and fun _ _ _ => .int _
abbrev gOr := gI fun i j => .int (Builtin.bitOr i j)
theorem os_or : OpS X cl (binaryOp .BitOr) gOr := op_int op_or fun _ _ _ => .int _
abbrev gXor := gI fun i j => .int (Builtin.bitXor i j)
theorem os_xor : OpS X cl (binaryOp .BitXor) gXor := op_int op_xor fun _ _ _ => .int _
abbrev gShl := gIc (fun i j => decide (0 ≤ j ∧ j ≤ 1000000 ∧ i.natAbs < 2 ^ 64)) fun i j => .int (i * 2 ^ j.toNat)
theorem os_shl : OpS X cl (binaryOp .LShift) gShl := op_intc op_shl (fun i j h => show 0 ≤ j ∧ j ≤ 1000000 ∧ i.natAbs < 2 ^ 64 from of_decide_eq_true h) fun _ _ _ => .int _
abbrev gShr := gIc (fun _ j => decide (0 ≤ j)) fun i j => .int (i / 2 ^ j.toNat)
theorem os_shr : OpS X cl (binaryOp .RShift) gShr := op_intc op_shr (fun _ _ h => of_decide_eq_true h) fun _ _ _ => .int _
abbrev gLt := gI fun i j => .bl (decide (i < j))
theorem os_lt : OpS X cl (compareOp .Lt) gLt := op_int op_lt fun _ _ _ => .bl _
abbrev gLe := gI fun i j => .bl (decide (i ≤ j))
theorem os_le : OpS X cl (compareOp .LtE) gLe := op_int op_le fun _ _ _ => .bl _
abbrev gGt := gI fun i j => .bl (decide (j < i))
theorem os_gt : OpS X cl (compareOp .Gt) gGt := op_int op_gt fun _ _ _ => .bl _
abbrev gGe := gI fun i j => .bl (decide (j ≤ i))
theorem os_ge : OpS X cl (compareOp .GtE) gGe := op_int op_ge fun _ _ _ => .bl _
theorem line100k : (100000 : Nat) ≤ sizeLine := by decide
theorem os_add : OpS X cl (binaryOp .Add) gAdd := fun s x y d1 d2 d Q e ok h1 h2 q => by
  have lists : ∀ l m, asL s.ah d1 = some l → asL s.ah d2 = some m → l.length + m.length ≤ 100000 → d = .lst (l ++ m) → ∃ r : R2, OpR X (binaryOp .Add) r ∧ r x y s.H Q := fun l m e1 e2 hl ed => by
    obtain ⟨a, vs, rfl, ha, hs⟩ := asL_view e1 ok h1
    obtain ⟨b, ws, rfl, hb, ht⟩ := asL_view e2 ok h2
    refine ⟨_, op_cat, a, b, vs, ws, rfl, rfl, ha, hb, Nat.le_trans (by rw [← hs.len, ← ht.len]; exact hl) line100k, fun p hp => ?_⟩
    have l2 := le_new ok hp (.lst (vs ++ ws))
    exact q (s.up p _) _ l2 rfl (ed ▸ .lst upd_same (fun a => (ok.nav hp) a) ((hs.append ht).le l2))
  unfold gAdd at e
  split at e
  · cases h1
    cases h2
    cases e
    exact ⟨_, op_add, _, _, rfl, rfl, q s _ (Le.refl ok) rfl (.int _)⟩
  · split at e
    · rename_i hl
      cases h1
      cases h2
      cases e
      exact ⟨_, op_add_str, _, _, rfl, rfl, Nat.le_trans hl line100k, q s _ (Le.refl ok) rfl (.str _)⟩
    · cases e
  · cases e
  · obtain ⟨l, e1, e⟩ := Option.bind_eq_some_iff.mp e
    obtain ⟨m, e2, e⟩ := Option.bind_eq_some_iff.mp e
    split at e
    · rename_i hl
      exact lists l m e1 e2 hl (Option.some.inj e).symm
    · cases e
end
end MM

set_option linter.all false
set_option maxRecDepth 100000
namespace MM
open PySem L2

mutual
def D.py : D → Option PyData
  | .non => some .none
  | .bl b => some (.bool b)
  | .int i => some (.int i)
  | .str x => some (.str x)
  | .tup l => (D.pys l).map .tuple
  | .lst l => (D.pys l).map .list
  | _ => none
def D.pys : List D → Option (List PyData)
  | [] => some []
  | d :: r => (D.py d).bind fun p => (D.pys r).map fun q => p :: q
end
section
variable {G : Gx} {s : S}
mutual
theorem DV.dp : ∀ {d : D} {v : V} {p : PyData}, DV G s d v → D.py d = some p → Dp G.K s.H v p
  | _, _, _, .non, h => by simp [D.py] at h; rw [← h]; exact .non
  | _, _, _, .bl b, h => by simp [D.py] at h; rw [← h]; exact .bl b
  | _, _, _, .int b, h => by simp [D.py] at h; rw [← h]; exact .int b
  | _, _, _, .str b, h => by simp [D.py] at h; rw [← h]; exact .str b
  | _, _, _, .ptr _, h => by simp [D.py] at h
  | _, _, _, .tup e _ hs, h => by
    obtain ⟨q, h1, rfl⟩ := Option.map_eq_some_iff.mp (by simpa [D.py] using h)
    exact .tup (.inl e) (DVs.dp hs h1)
  | _, _, _, .tupK a b c d e hs, h => by
    obtain ⟨q, h1, rfl⟩ := Option.map_eq_some_iff.mp (by simpa [D.py] using h)
    exact .tup (.inr ⟨_, _, _, a, b, c, d, e⟩) (DVs.dp hs h1)
  | _, _, _, .lst e _ hs, h => by
    obtain ⟨q, h1, rfl⟩ := Option.map_eq_some_iff.mp (by simpa [D.py] using h)
    exact .lst (.inl (.inl e)) (DVs.dp hs h1)
  | _, _, _, .scr e _ hs, h => by simp [D.py] at h
  | _, _, _, .scrK e hs, h => by simp [D.py] at h
  | _, _, _, .dic e _ _ hs, h => by simp [D.py] at h
  | _, _, _, .dct e _ _ hs, h => by simp [D.py] at h
  | _, _, _, .ins e _ _ _ hs, h => by simp [D.py] at h
theorem DVs.dp : ∀ {l : List D} {vs : List V} {ps : List PyData}, DVs G s l vs → D.pys l = some ps → DpAll G.K s.H vs ps
  | _, _, _, .nil, h => by simp [D.pys] at h; rw [h]; exact .nil
  | _, _, _, .cons a b, h => by
    simp only [D.pys] at h
    obtain ⟨p, h1, h2⟩ := Option.bind_eq_some_iff.mp h
    obtain ⟨q, h3, rfl⟩ := Option.map_eq_some_iff.mp h2
    exact .cons (DV.dp a h1) (DVs.dp b h3)
end
end
def topPy (ah : AH) : D → Option PyData
  | .ptr n => (asL ah (.ptr n)).bind fun l => (D.pys l).map .list
  | d => D.py d
theorem topPy_dp {G : Gx} {s : S} {d : D} {v : V} {p : PyData} (ok : Ok G s) (x : DV G s d v) (h : topPy s.ah d = some p) : Dp G.K s.H v p := by
  cases d with
  | ptr n =>
    obtain ⟨l, h1, h2⟩ := Option.bind_eq_some_iff.mp h
    obtain ⟨q, h3, rfl⟩ := Option.map_eq_some_iff.mp h2
    obtain ⟨a, vs, rfl, ha, hs⟩ := asL_view h1 ok x
    exact .lst (.inl (.inl ha)) (hs.dp h3)
  | _ => exact x.dp h
def dEq (ah : AH) (x y : D) : Option Bool := match x, y with
  | .int i, .int j => some (decide (i = j))
  | .str a, .str b => some (decide (a = b))
  | .bl a, .bl b => some (a == b)
  | x, y => (topPy ah x).bind fun p => (topPy ah y).bind fun r => if (SeqAt.shaped p && SeqAt.shaped r) = true then some (PyData.eqv p r) else none
def gEq : AH → D → D → Option D := fun ah x y => (dEq ah x y).map .bl
def gNe : AH → D → D → Option D := fun ah x y => (dEq ah x y).map fun b => .bl (!b)
section
variable {X : Cx} {cl : Str → Option Addr}
theorem os_eqne {op : CmpOp} {f : Bool → Bool} (hs : OpR X (compareOp op) (fun x y H Q => scal x y = true ∧ Q (.bl (f (decide (x = y)))) H))
    (hD : OpR X (compareOp op) (fun x y H Q => ∃ d e, Dp X.K H x d ∧ Dp X.K H y e ∧ SeqAt.shaped d = true ∧ SeqAt.shaped e = true ∧ Q (.bl (f (PyData.eqv d e))) H)) : OpS X cl (compareOp op) (fun ah x y => (dEq ah x y).map fun b => .bl (f b)) := fun s x y d1 d2 d Q e ok h1 h2 q => by
  obtain ⟨b, e0, ed⟩ := Option.map_eq_some_iff.mp e
  subst ed
  clear e
  have e := e0
  clear e0
  have fin : ∀ c, c = b → Q (.bl (f c)) s.H := fun c ec => by
    rw [ec]
    exact q s _ (Le.refl ok) rfl (.bl _)
  unfold dEq at e
  split at e
  · cases h1
    cases h2
    cases e
    exact ⟨_, hs, rfl, fin _ (by simp)⟩
  · cases h1
    cases h2
    cases e
    exact ⟨_, hs, rfl, fin _ (by simp)⟩
  · cases h1
    cases h2
    cases e
    refine ⟨_, hs, rfl, fin _ ?_⟩
    rename_i a c
    cases a <;> cases c <;> rfl
  · obtain ⟨p, e1, e⟩ := Option.bind_eq_some_iff.mp e
    obtain ⟨r, e2, e⟩ := Option.bind_eq_some_iff.mp e
    split at e
    · rename_i hsh
      rw [Bool.and_eq_true] at hsh
      exact ⟨_, hD, p, r, topPy_dp ok h1 e1, topPy_dp ok h2 e2, hsh.1, hsh.2, fin _ (Option.some.inj e)⟩
    · cases e
theorem os_eq (hu : X.A.units + 64 < cLine) : OpS X cl (compareOp .Eq) gEq := os_eqne (f := fun b => b) op_eq (op_eqD hu)
theorem os_ne (hu : X.A.units + 64 < cLine) : OpS X cl (compareOp .NotEq) gNe := os_eqne (f := fun b => !b) op_ne (op_neD hu)
/-! is None -/
def isN : D → Bool
  | .non => true
  | _ => false
def gIsN : AH → D → D → Option D := fun _ x y => match y with | .non => some (.bl (isN x)) | _ => none
def gNotN : AH → D → D → Option D := fun _ x y => match y with | .non => some (.bl (!isN x)) | _ => none
theorem isN_eq {G : Gx} {s : S} {d : D} {v : V} (h : DV G s d v) : decide (v = V.non) = isN d := by
  cases h <;> rfl
theorem os_isN : OpS X cl (compareOp .Is) gIsN := fun s x y d1 d2 d Q e ok h1 h2 q => by
  unfold gIsN at e
  split at e
  · cases h2
    cases e
    exact ⟨_, op_isN, rfl, by rw [isN_eq h1]; exact q s _ (Le.refl ok) rfl (.bl _)⟩
  · cases e
theorem os_notN : OpS X cl (compareOp .IsNot) gNotN := fun s x y d1 d2 d Q e ok h1 h2 q => by
  unfold gNotN at e
  split at e
  · cases h2
    cases e
    exact ⟨_, op_notN, rfl, by rw [isN_eq h1]; exact q s _ (Le.refl ok) rfl (.bl _)⟩
  · cases e
/-! in -/
def keyOf : D → Option Key
  | .int i => some (.inl i)
  | .str x => some (.inr x)
  | _ => none
theorem keyOf_v {G : Gx} {s : S} {d : D} {v : V} {k : Key} (h : DV G s d v) (e : keyOf d = some k) : v = kV k := by
  cases h <;> cases e <;> rfl
def dLook (l : List (Key × D)) (k : Key) : Option D := (l.find? fun kv => decide (kv.1 = k)).map (·.2)
theorem dLook_v {G : Gx} {s : S} : ∀ {l : List (Key × D)} {kvs : List (Key × V)} {k : Key}, kvs.map (·.1) = l.map (·.1) → DVs G s (l.map (·.2)) (kvs.map (·.2)) →
    (dLook l k).isSome = (valV kvs k).isSome ∧ ∀ d, dLook l k = some d → ∃ v, valV kvs k = some v ∧ DV G s d v
  | [], [], k, _, _ => ⟨rfl, fun d h => by cases h⟩
  | [], _ :: _, k, h, _ => by simp at h
  | _ :: _, [], k, h, _ => by simp at h
  | (j, d) :: l, (j', v) :: kvs, k, h, hs => by
    simp only [List.map_cons, List.cons.injEq] at h hs
    obtain ⟨rfl, h⟩ := h
    cases hs with
    | cons h1 h2 =>
      by_cases e : j' = k
      · have e1 : dLook ((j', d) :: l) k = some d := by simp [dLook, List.find?_cons, e]
        have e2 : valV ((j', v) :: kvs) k = some v := valV_pos e
        rw [e1, e2]
        exact ⟨rfl, fun d' q => ⟨v, rfl, by cases q; exact h1⟩⟩
      · have e1 : dLook ((j', d) :: l) k = dLook l k := by simp [dLook, List.find?_cons, e]
        rw [e1, valV_neg e]
        exact dLook_v h h2
def strIn (x y : Str) : Bool := !(Builtin.Str.occurrences y x 0 y.length 1).isEmpty
/-- x in y -/
def dIn (ah : AH) (x y : D) : Option Bool := match x, y with
  | .str a, .str b => if a.length = 1 then some (decide (a.cps.getD 0 0 ∈ b.cps.toList)) else some (strIn a b)
  | .str a, .tup l => if (l.all fun d => match d with | .str _ => true | _ => false) = true then some (l.any fun d => match d with | .str b => b == a | _ => false) else none
  | x, y => match asK ah y with
    | some l => (keyOf x).map fun k => (dLook l k).isSome
    | none => (topPy ah x).bind fun p => (asL ah y).bind fun l => (D.pys l).bind fun ps => if (SeqAt.shaped p && SeqAt.shaped (.list ps)) = true then some (ps.any fun z => PyData.eqv z p) else none
def gIn : AH → D → D → Option D := fun ah x y => (dIn ah x y).map .bl
def gNotIn : AH → D → D → Option D := fun ah x y => (dIn ah x y).map fun b => .bl (!b)
theorem op_inK (hu : X.A.units + 1 < cLine) : OpR X (compareOp .In) (fun x y H Q => ∃ a o, y = .ref a ∧ DGet H a x o ∧ Q (.bl o.isSome) H) := fun pins s σ H x y v u Q I rx ry ⟨a, o, e, g, q⟩ => by
  subst e
  obtain rfl : u = Value.ref a := ry
  exact d_in hu I g rx fun s3 I3 => ⟨.bl o.isSome, H, I3, rfl, q⟩
theorem op_notInK (hu : X.A.units + 1 < cLine) : OpR X (compareOp .NotIn) (fun x y H Q => ∃ a o, y = .ref a ∧ DGet H a x o ∧ Q (.bl (!o.isSome)) H) := fun pins s σ H x y v u Q I rx ry ⟨a, o, e, g, q⟩ => by
  subst e
  obtain rfl : u = Value.ref a := ry
  exact d_notIn hu I g rx fun s3 I3 => ⟨.bl (!o.isSome), H, I3, rfl, q⟩
theorem one_sign {a : Str} (h : a.length = 1) : a = ⟨#[a.cps.getD 0 0]⟩ := by
  obtain ⟨l⟩ := a
  obtain ⟨l⟩ := l
  match l, h with
  | [c], _ => rfl
theorem strs_view {G : Gx} {s : S} {a : Str} : ∀ {l : List D} {vs : List V}, DVs G s l vs → (l.all fun d => match d with | .str _ => true | _ => false) = true → vs.all flatV = true ∧ inV (.str a) vs = l.any fun d => match d with | .str b => b == a | _ => false
  | _, _, .nil, _ => ⟨rfl, rfl⟩
  | d :: l, v :: vs, .cons h1 h2, h => by
    simp only [List.all_cons, Bool.and_eq_true] at h
    obtain ⟨ih1, ih2⟩ := strs_view (a := a) h2 h.2
    cases h1 with
    | str b =>
      refine ⟨by simp [flatV, ih1], ?_⟩
      rw [List.any_cons, ← ih2]
      rfl
    | _ => exact absurd h.1 (by simp)
theorem os_inG {op : CmpOp} {f : Bool → Bool}
    (h1 : OpR X (compareOp op) (fun x y H Q => ∃ (c : Nat) (z : Str), x = .str ⟨#[c]⟩ ∧ y = .str z ∧ Q (.bl (f (decide (c ∈ z.cps.toList)))) H))
    (h2 : OpR X (compareOp op) (fun x y H Q => ∃ i j, x = .str i ∧ y = .str j ∧ Q (.bl (f (strIn i j))) H))
    (h3 : OpR X (compareOp op) (fun x y H Q => ∃ p xs, y = .ref p ∧ (SqL X.K H p xs ∨ SqT X.K H p xs) ∧ flatV x = true ∧ xs.all flatV = true ∧ Q (.bl (f (inV x xs))) H))
    (h4 : OpR X (compareOp op) (fun x y H Q => ∃ a o, y = .ref a ∧ DGet H a x o ∧ Q (.bl (f o.isSome)) H))
    (h5 : OpR X (compareOp op) (fun x y H Q => ∃ d ds, Dp X.K H x d ∧ Dp X.K H y (.list ds) ∧ SeqAt.shaped d = true ∧ SeqAt.shaped (.list ds) = true ∧ Q (.bl (f (ds.any fun z => PyData.eqv z d))) H)) :
    OpS X cl (compareOp op) (fun ah x y => (dIn ah x y).map fun b => .bl (f b)) := fun s x y d1 d2 d Q e ok v1 v2 q => by
  obtain ⟨b, e0, ed⟩ := Option.map_eq_some_iff.mp e
  subst ed
  clear e
  have e := e0
  clear e0
  have fin : ∀ c, c = b → Q (.bl (f c)) s.H := fun c ec => by
    rw [ec]
    exact q s _ (Le.refl ok) rfl (.bl _)
  unfold dIn at e
  split at e
  · cases v1
    cases v2
    rename_i a c
    split at e
    · rename_i ha
      exact ⟨_, h1, a.cps.getD 0 0, c, by rw [← one_sign ha], rfl, fin _ (Option.some.inj e)⟩
    · exact ⟨_, h2, a, c, rfl, rfl, fin _ (Option.some.inj e)⟩
  · split at e
    · rename_i l hl
      cases v1
      obtain ⟨p, vs, rfl, hp, hs⟩ := tup_view v2
      obtain ⟨k1, k2⟩ := strs_view hs hl
      exact ⟨_, h3, p, vs, rfl, .inr hp, rfl, k1, fin _ (by rw [k2]; exact Option.some.inj e)⟩
    · cases e
  · split at e
    · rename_i l hl
      obtain ⟨k, e1, e2⟩ := Option.map_eq_some_iff.mp e
      obtain ⟨a, kvs, rfl, ha, hk, hs⟩ := asK_view hl ok v2
      exact ⟨_, h4, a, valV kvs k, rfl, .inl ⟨kvs, k, ha, keyOf_v v1 e1, rfl⟩, fin _ (by rw [← (dLook_v hk hs).1]; exact e2)⟩
    · obtain ⟨p, e1, e⟩ := Option.bind_eq_some_iff.mp e
      obtain ⟨l, e2, e⟩ := Option.bind_eq_some_iff.mp e
      obtain ⟨ps, e3, e⟩ := Option.bind_eq_some_iff.mp e
      split at e
      · rename_i hsh
        rw [Bool.and_eq_true] at hsh
        obtain ⟨a, vs, rfl, ha, hs⟩ := asL_view e2 ok v2
        exact ⟨_, h5, p, ps, topPy_dp ok v1 e1, .lst (.inl (.inl ha)) (hs.dp e3), hsh.1, hsh.2, fin _ (Option.some.inj e)⟩
      · cases e
theorem os_in (hu : X.A.units + 65 < cLine) : OpS X cl (compareOp .In) gIn := os_inG (f := fun b => b) op_inS op_in_str op_in_seq (op_inK (by omega)) (op_inD hu)
theorem os_notIn (hu : X.A.units + 65 < cLine) : OpS X cl (compareOp .NotIn) gNotIn := os_inG (f := fun b => !b) op_notInS op_notin_str op_notIn_seq (op_notInK (by omega)) (op_notInD hu)
/-! times -/
theorem repS_eq (x : Str) (n : Int) (hn : 0 < n) : (⟨(List.replicate n.toNat x.cps).foldl (· ++ ·) #[]⟩ : Str) = repS x n := by
  have k : ∀ (m : Nat) (acc : Array Nat), (List.replicate m x.cps).foldl (· ++ ·) acc = (acc.toList ++ (List.replicate m x.cps.toList).flatten).toArray := by
    intro m
    induction m with
    | zero => intro acc; simp
    | succ m ih =>
      intro acc
      rw [List.replicate_succ, List.foldl_cons, ih, List.replicate_succ, List.flatten_cons]
      simp
  rw [k]
  simp [repS]
theorem op_mul_str : OpR X (binaryOp .Mult) (fun x y H Q => ∃ z n, x = .str z ∧ y = .int n ∧ 0 ≤ n ∧ n ≤ 1000 ∧ z.length ≤ 1000 ∧ Q (.str (repS z n)) H) := fun pins s σ H x y v u Q I rx ry ⟨z, n, e1, e2, h0, h1, h2, q⟩ => by
  subst e1 e2
  obtain ⟨t, rfl⟩ := rx
  obtain ⟨t', rfl⟩ := ry
  have fin : ∀ (tk : Tok) (s' : Shared), Inv X pins σ H s' → EP X pins σ Q (.str (repS z n) tk) s' := fun tk s' I' => ⟨.str (repS z n), H, I', ⟨tk, rfl⟩, q⟩
  have hmul : z.length * n.toNat ≤ 1000000 := by
    have := Nat.mul_le_mul h2 (show n.toNat ≤ 1000 by omega)
    omega
  refine P.mul_str (by
    have a : ¬ n < -(2 ^ 63 : Int) := by omega
    have b : ¬ n ≥ 2 ^ 63 := by omega
    rw [decide_eq_false a, decide_eq_false b]; rfl) (fun hn _ => ?_) (fun _ _ => ?_) ?_
  · have hz : (z.length : Int) ≤ 1000 := by omega
    have : (1000 : Int) ≤ (2 ^ 63 - 1) / n := by
      rw [Int.le_ediv_iff_mul_le (by omega)]
      omega
    omega
  · unfold Builtin.Str.tooLong
    have : ¬ z.length * n.toNat > sizeLine := by
      have : (1000000 : Nat) ≤ sizeLine := by decide
      omega
    simpa using this
  · by_cases hn : n < 1
    · rw [if_pos hn]
      have e : repS z n = Str.empty := by
        have : n.toNat = 0 := by omega
        unfold repS
        rw [this]
        rfl
      exact ⟨by decide, by rw [← e]; exact fin _ _ (I.tok _)⟩
    · rw [if_neg hn]
      split
      · rename_i hc
        have e : repS z n = z := by
          simp only [Bool.or_eq_true, beq_iff_eq] at hc
          rcases hc with hc | hc
          · subst hc
            unfold repS
            simp
          · obtain ⟨zl⟩ := z
            have : zl = #[] := Array.eq_empty_of_size_eq_zero hc
            subst this
            simp [repS]
        show EP X pins σ Q (.str z t) s
        rw [← e]
        exact fin _ _ I
      · rw [repS_eq z n (by omega)]
        refine ⟨?_, fin _ _ (I.tok _)⟩
        have : (repS z n).length ≤ 1000000 := by
          unfold repS
          show (List.replicate n.toNat z.cps.toList).flatten.toArray.size ≤ _
          simp [List.length_flatten, List.map_replicate, List.sum_replicate_nat]
          rw [Nat.mul_comm]
          exact hmul
        exact Nat.le_trans this (by decide)
theorem os_mul : OpS X cl (binaryOp .Mult) gMul := fun s x y d1 d2 d Q e ok h1 h2 q => by
  unfold gMul at e
  split at e
  · split at e
    · rename_i hc
      cases h1
      cases h2
      cases e
      exact ⟨_, op_mul, _, _, rfl, rfl, hc, q s _ (Le.refl ok) rfl (.int _)⟩
    · cases e
  · split at e
    · rename_i hc
      cases h1
      cases h2
      cases e
      exact ⟨_, op_mul_str, _, _, rfl, rfl, hc.1, hc.2.1, hc.2.2, q s _ (Le.refl ok) rfl (.str _)⟩
    · cases e
  · cases e
  · cases e
  · obtain ⟨l, e1, e⟩ := Option.bind_eq_some_iff.mp e
    split at e
    · rename_i hc
      obtain ⟨a, vs, rfl, ha, hs⟩ := asL_view e1 ok h1
      cases h2
      cases e
      rename_i n _ _ _
      refine ⟨_, op_rep, a, n, vs, rfl, rfl, ha, by omega, by omega, ?_, fun p hp => ?_⟩
      · rw [← hs.len]
        have := Nat.mul_le_mul hc.2.2 (show n.toNat ≤ 1000 by omega)
        exact Nat.le_trans this (by decide)
      · have l2 := le_new ok hp (.lst (List.replicate n.toNat vs).flatten)
        exact q (s.up p _) _ l2 rfl (.lst upd_same (fun a => (ok.nav hp) a) ((hs.rep _).le l2))
    · cases e
  · cases e
end
end MM

set_option linter.all false
set_option maxRecDepth 100000
namespace MM
open PySem L2

/-! ### tests -/
section
variable {X : Cx} {cl : Str → Option Addr} {a b e : Expr} {rest es : List Expr} {pos : Pos} {ma mb mc : ME} {ta tb : MT} {ms : MA}
theorem rt_of (h : RE X cl e ma) (he : ∀ whole, isTrue e X.env whole = (do let v ← whole; standAt e.pos; holding [v] (truthy v)) := by intro _; rfl) : RT X cl e (tOf ma) := fun δ s σ d ah' Q h' ok sv q => by
  obtain ⟨⟨z, za⟩, h0, hz⟩ := Option.bind_eq_some_iff.mp h'
  cases z with
  | bl k =>
    obtain ⟨rfl, rfl⟩ := Prod.mk.inj (Option.some.inj hz)
    exact WT.of (pt_val peW he) (h δ s σ _ _ _ h0 ok sv fun s' v l e d => by
      cases d
      exact ⟨k, rfl, q s' l e⟩)
  | _ => cases hz
/-- truth of a list -/
def tSeqTru (m : ME) : MT := fun δ ah => (m δ ah).bind fun p => (asR p.2 p.1).map fun l => (!l.isEmpty, p.2)
theorem rt_seqTru (h : RE X cl e ma) (he : ∀ whole, isTrue e X.env whole = (do let v ← whole; standAt e.pos; holding [v] (truthy v)) := by intro _; rfl) : RT X cl e (tSeqTru ma) := fun δ s σ d ah' Q h' ok sv q => by
  obtain ⟨p, h0, hz⟩ := Option.bind_eq_some_iff.mp h'
  obtain ⟨l, h1, h2⟩ := Option.map_eq_some_iff.mp hz
  obtain ⟨rfl, rfl⟩ := Prod.mk.inj h2
  refine WT.of (pt_truth peW he) (h δ s σ _ _ _ h0 ok sv fun s' v l1 e1 d1 => ?_)
  obtain ⟨a, vs, rfl, ha, hs⟩ := asR_view (l := l) (by rw [e1]; exact h1) l1.ok d1
  refine ⟨!l.isEmpty, .inl ⟨vs, ha, ?_⟩, q s' l1 e1⟩
  have := hs.len
  cases l <;> cases vs <;> first | rfl | cases this
def tAndM (t u : MT) : MT := fun δ ah => (t δ ah).bind fun p => if p.1 = true then u δ p.2 else some (false, p.2)
def tOrM (t u : MT) : MT := fun δ ah => (t δ ah).bind fun p => if p.1 = true then some (true, p.2) else u δ p.2
def tNotM (t : MT) : MT := fun δ ah => (t δ ah).map fun p => (!p.1, p.2)
theorem rt_not (h : RT X cl a ta) : RT X cl (.UnaryOp .Not a pos) (tNotM ta) := fun δ s σ d ah' Q h' ok sv q => by
  obtain ⟨p, h1, h2⟩ := Option.map_eq_some_iff.mp h'
  obtain ⟨rfl, rfl⟩ := Prod.mk.inj h2
  exact WT.of (pt_not ptW) (h δ s σ p.1 p.2 _ h1 ok sv fun s' l e => q s' l e)
theorem rw_and1 (h : RT X cl a ta) : MM.RW X cl (.BoolOp .And [a] pos) ta := fun δ s σ d ah' Q h' ok sv q => WPW.of (pw_and1 ptW) (h δ s σ d ah' Q h' ok sv q)
theorem rw_or1 (h : RT X cl a ta) : MM.RW X cl (.BoolOp .Or [a] pos) ta := fun δ s σ d ah' Q h' ok sv q => WPW.of (pw_or1 ptW) (h δ s σ d ah' Q h' ok sv q)
theorem rw_and (h : RT X cl a ta) (hb : MM.RW X cl (.BoolOp .And (b :: rest) pos) tb) : MM.RW X cl (.BoolOp .And (a :: b :: rest) pos) (tAndM ta tb) := fun δ s σ d ah' Q h' ok sv q => by
  obtain ⟨p, h1, h2⟩ := Option.bind_eq_some_iff.mp h'
  refine WPW.of (pw_and ptW pwW) (h δ s σ p.1 p.2 _ h1 ok sv fun s1 l1 e1 => ?_)
  split
  · rename_i k
    rw [if_pos k] at h2
    exact hb δ s1 σ d ah' Q (by rw [e1]; exact h2) l1.ok (sv.le l1) fun s2 l2 e2 => q s2 (l1.trans l2) e2
  · rename_i k
    rw [if_neg k] at h2
    obtain ⟨rfl, rfl⟩ := Prod.mk.inj (Option.some.inj h2)
    exact q s1 l1 e1
theorem rw_or (h : RT X cl a ta) (hb : MM.RW X cl (.BoolOp .Or (b :: rest) pos) tb) : MM.RW X cl (.BoolOp .Or (a :: b :: rest) pos) (tOrM ta tb) := fun δ s σ d ah' Q h' ok sv q => by
  obtain ⟨p, h1, h2⟩ := Option.bind_eq_some_iff.mp h'
  refine WPW.of (pw_or ptW pwW) (h δ s σ p.1 p.2 _ h1 ok sv fun s1 l1 e1 => ?_)
  split
  · rename_i k
    rw [if_pos k] at h2
    obtain ⟨rfl, rfl⟩ := Prod.mk.inj (Option.some.inj h2)
    exact q s1 l1 e1
  · rename_i k
    rw [if_neg k] at h2
    exact hb δ s1 σ d ah' Q (by rw [e1]; exact h2) l1.ok (sv.le l1) fun s2 l2 e2 => q s2 (l1.trans l2) e2
theorem rt_rw (h : MM.RW X cl e ta) : RT X cl e ta := fun δ s σ d ah' Q h' ok sv q pins st I => h δ s σ d ah' Q h' ok sv q _ pins st I
/-! .. as values -/
def eAnd (a b : ME) : ME := fun δ ah => (a δ ah).bind fun p => match p.1 with | .bl true => b δ p.2 | .bl false => some (.bl false, p.2) | _ => none
def eOr (a b : ME) : ME := fun δ ah => (a δ ah).bind fun p => match p.1 with | .bl true => some (.bl true, p.2) | .bl false => b δ p.2 | _ => none
def eNot (a : ME) : ME := fun δ ah => (a δ ah).bind fun p => match p.1 with | .bl b => some (.bl (!b), p.2) | _ => none
theorem re_one {op} (h : RE X cl a ma) : RE X cl (.BoolOp op [a] pos) ma := fun δ s σ d ah' Q h' ok sv q => WE.of (pe_one peW) (h δ s σ d ah' Q h' ok sv q)
theorem re_and (h : RE X cl a ma) (hb : RE X cl (.BoolOp .And (b :: rest) pos) mb) : RE X cl (.BoolOp .And (a :: b :: rest) pos) (eAnd ma mb) := fun δ s σ d ah' Q h' ok sv q => by
  obtain ⟨⟨z, za⟩, h1, h2⟩ := Option.bind_eq_some_iff.mp h'
  refine WE.of (pe_and peW peW) (h δ s σ _ _ _ h1 ok sv fun s1 v l1 e1 d1 => ?_)
  cases z with
  | bl k =>
    cases d1
    refine ⟨k, rfl, ?_⟩
    cases k with
    | true =>
      rw [if_pos rfl]
      exact hb δ s1 σ d ah' Q (by rw [e1]; exact h2) l1.ok (sv.le l1) fun s2 v l2 e2 d2 => q s2 v (l1.trans l2) e2 d2
    | false =>
      rw [if_neg Bool.false_ne_true]
      obtain ⟨rfl, rfl⟩ := Prod.mk.inj (Option.some.inj h2)
      exact q s1 _ l1 e1 (.bl false)
  | _ => cases h2
theorem re_or (h : RE X cl a ma) (hb : RE X cl (.BoolOp .Or (b :: rest) pos) mb) : RE X cl (.BoolOp .Or (a :: b :: rest) pos) (eOr ma mb) := fun δ s σ d ah' Q h' ok sv q => by
  obtain ⟨⟨z, za⟩, h1, h2⟩ := Option.bind_eq_some_iff.mp h'
  refine WE.of (pe_or peW peW) (h δ s σ _ _ _ h1 ok sv fun s1 v l1 e1 d1 => ?_)
  cases z with
  | bl k =>
    cases d1
    refine ⟨k, rfl, ?_⟩
    cases k with
    | true =>
      rw [if_pos rfl]
      obtain ⟨rfl, rfl⟩ := Prod.mk.inj (Option.some.inj h2)
      exact q s1 _ l1 e1 (.bl true)
    | false =>
      rw [if_neg Bool.false_ne_true]
      exact hb δ s1 σ d ah' Q (by rw [e1]; exact h2) l1.ok (sv.le l1) fun s2 v l2 e2 d2 => q s2 v (l1.trans l2) e2 d2
  | _ => cases h2
theorem re_not (h : RE X cl a ma) : RE X cl (.UnaryOp .Not a pos) (eNot ma) := fun δ s σ d ah' Q h' ok sv q => by
  obtain ⟨⟨z, za⟩, h1, h2⟩ := Option.bind_eq_some_iff.mp h'
  refine WE.of (pe_not peW) (h δ s σ _ _ _ h1 ok sv fun s1 v l1 e1 d1 => ?_)
  cases z with
  | bl k =>
    cases d1
    obtain ⟨rfl, rfl⟩ := Prod.mk.inj (Option.some.inj h2)
    exact ⟨k, rfl, q s1 _ l1 e1 (.bl _)⟩
  | _ => cases h2
def eIf (c : MT) (a b : ME) : ME := fun δ ah => (c δ ah).bind fun p => if p.1 = true then a δ p.2 else b δ p.2
theorem re_if {c : Expr} (hc : RT X cl c ta) (ha : RE X cl a ma) (hb : RE X cl b mb) : RE X cl (.IfExp c a b pos) (eIf ta ma mb) := fun δ s σ d ah' Q h' ok sv q => by
  obtain ⟨p, h1, h2⟩ := Option.bind_eq_some_iff.mp h'
  refine WE.of (pe_ifExp ptW peW peW) (hc δ s σ p.1 p.2 _ h1 ok sv fun s1 l1 e1 => ?_)
  split
  · rename_i k
    rw [if_pos k] at h2
    exact ha δ s1 σ d ah' Q (by rw [e1]; exact h2) l1.ok (sv.le l1) fun s2 v l2 e2 d2 => q s2 v (l1.trans l2) e2 d2
  · rename_i k
    rw [if_neg k] at h2
    exact hb δ s1 σ d ah' Q (by rw [e1]; exact h2) l1.ok (sv.le l1) fun s2 v l2 e2 d2 => q s2 v (l1.trans l2) e2 d2
def eNeg (a : ME) : ME := fun δ ah => (a δ ah).bind fun p => match p.1 with | .int i => some (.int (-i), p.2) | _ => none
theorem re_neg (h : RE X cl a ma) : RE X cl (.UnaryOp .USub a pos) (eNeg ma) := fun δ s σ d ah' Q h' ok sv q => by
  obtain ⟨⟨z, za⟩, h1, h2⟩ := Option.bind_eq_some_iff.mp h'
  refine WE.of (pe_un un_neg peW) (h δ s σ _ _ _ h1 ok sv fun s1 v l1 e1 d1 => ?_)
  cases z with
  | int k =>
    cases d1
    obtain ⟨rfl, rfl⟩ := Prod.mk.inj (Option.some.inj h2)
    exact ⟨k, rfl, q s1 _ l1 e1 (.int _)⟩
  | _ => cases h2
/-- the new mutable thing is taken as data -/
def freeze (p : D × AH) : Option (D × AH) := match p.1 with
  | .ptr n => match p.2[n]? with
    | some (.lst l) => some (.lst l, p.2.set n .gone)
    | some (.dic l) => some (.dic l, p.2.set n .gone)
    | some (.ins c f) => some (.ins c f, p.2.set n .gone)
    | _ => none
  | d => some (d, p.2)
theorem freeze_step {G : Gx} {s : S} {d d' : D} {v : V} {ah' : AH} (h : freeze (d, s.ah) = some (d', ah')) (ok : Ok G s) (x : DV G s d v) : ∃ s', Le G s s' ∧ s'.ah = ah' ∧ s'.H = s.H ∧ s'.ι = s.ι ∧ DV G s' d' v := by
  have triv : ∀ z, some (z, s.ah) = some (d', ah') → z = d → ∃ s', Le G s s' ∧ s'.ah = ah' ∧ s'.H = s.H ∧ s'.ι = s.ι ∧ DV G s' d' v := fun z e1 e2 => by
    obtain ⟨rfl, rfl⟩ := Prod.mk.inj (Option.some.inj e1)
    exact ⟨s, Le.refl ok, rfl, rfl, rfl, e2 ▸ x⟩
  cases d with
  | ptr n =>
    obtain ⟨a, ea, rfl⟩ := ptr_at x
    unfold freeze at h
    cases e : s.ah[n]? with
    | none => simp only [e] at h; cases h
    | some o =>
      simp only [e] at h
      cases o with
      | lst l =>
        obtain ⟨rfl, rfl⟩ := Prod.mk.inj (Option.some.inj h)
        obtain ⟨l1, na⟩ := le_fre ok ea e (by intro q; cases q)
        obtain ⟨vs, h1, h2⟩ := ok.obj n a _ ea e
        exact ⟨s.fre n, l1, rfl, rfl, rfl, .lst h1 na (h2.le l1)⟩
      | dic l =>
        obtain ⟨rfl, rfl⟩ := Prod.mk.inj (Option.some.inj h)
        obtain ⟨l1, na⟩ := le_fre ok ea e (by intro q; cases q)
        obtain ⟨vs, h1, hk, h2⟩ := ok.obj n a _ ea e
        exact ⟨s.fre n, l1, rfl, rfl, rfl, .dic (.inl h1) na hk (h2.le l1)⟩
      | ins c f =>
        obtain ⟨rfl, rfl⟩ := Prod.mk.inj (Option.some.inj h)
        obtain ⟨l1, na⟩ := le_fre ok ea e (by intro q; cases q)
        obtain ⟨C, dx, fs, hc, h1, hk, h2⟩ := ok.obj n a _ ea e
        exact ⟨s.fre n, l1, rfl, rfl, rfl, .ins h1 hc na hk (h2.le l1)⟩
      | _ => cases h
  | _ => exact triv _ h rfl
def eFreeze (m : ME) : ME := fun δ ah => (m δ ah).bind freeze
theorem re_freeze (h : RE X cl e ma) : RE X cl e (eFreeze ma) := fun δ s σ d ah' Q h' ok sv q => by
  obtain ⟨p, h1, h2⟩ := Option.bind_eq_some_iff.mp h'
  refine h δ s σ p.1 p.2 Q h1 ok sv fun s1 v l1 e1 d1 => ?_
  obtain ⟨s2, l2, e2, eH, _, d2⟩ := freeze_step (s := s1) (d := p.1) (by rw [e1]; exact h2) l1.ok d1
  rw [← eH]
  exact q s2 v (l1.trans l2) e2 d2
/-! ### subscripts -/
def gIx (ah : AH) (x y : D) : Option D := match asK ah x with
  | some l => (keyOf y).bind fun k => dLook l k
  | none => match x, y with
    | .str z, .int i => if z.length ≤ 100000 then (atI z.cps.toList i).map fun c => .str ⟨#[c]⟩ else none
    | .tup l, .int i => atI l i
    | x, .int i => (asL ah x).bind fun l => atI l i
    | _, _ => none
def eIx (a b : ME) : ME := eBin gIx a b
theorem atI_v {G : Gx} {s : S} {l : List D} {vs : List V} {i : Int} {d : D} (h : DVs G s l vs) (e : atI l i = some d) : ∃ v, atI vs i = some v ∧ DV G s d v := by
  unfold atI at e ⊢
  obtain ⟨j, h1, h2⟩ := Option.bind_eq_some_iff.mp e
  obtain ⟨v, h3, h4⟩ := h.get h2
  exact ⟨v, Option.bind_eq_some_iff.mpr ⟨j, by rw [← h.len]; exact h1, h3⟩, h4⟩
theorem re_ix (hu : X.A.units + 64 < cLine) (ha : RE X cl a ma) (hb : RE X cl b mb) (hs : ∀ o i, subscripted b false o i = operate [o, i] (getItem o i) := by intro _ _; rfl) : RE X cl (.Subscript a b pos) (eIx ma mb) := fun δ s σ d ah' Q h ok sv q => by
  obtain ⟨p, h1, h2⟩ := Option.bind_eq_some_iff.mp h
  obtain ⟨r, h3, h4⟩ := Option.bind_eq_some_iff.mp h2
  obtain ⟨d', h5, h6⟩ := Option.map_eq_some_iff.mp h4
  obtain ⟨rfl, rfl⟩ := Prod.mk.inj h6
  unfold gIx at h5
  cases hK : asK r.2 p.1 with
  | some l =>
    rw [hK] at h5
    obtain ⟨k, h7, h8⟩ := Option.bind_eq_some_iff.mp h5
    refine WE.of (pe_dget (by omega) peW peW hs) (ha δ s σ p.1 p.2 _ h1 ok sv fun s1 x l1 e1 d1 => hb δ s1 σ r.1 r.2 _ (by rw [e1]; exact h3) l1.ok (sv.le l1) fun s2 y l2 e2 d2 => ?_)
    obtain ⟨a, kvs, rfl, hr, hk, hs⟩ := asK_view (l := l) (by rw [e2]; exact hK) l2.ok (d1.le l2)
    obtain ⟨v, h9, h10⟩ := (dLook_v (k := k) hk hs).2 _ h8
    exact ⟨a, v, rfl, .inl ⟨kvs, k, hr, keyOf_v d2 h7, h9.symm⟩, q s2 v (l1.trans l2) e2 h10⟩
  | none =>
    rw [hK] at h5
    refine WE.of (pe_ix ix_seq peW peW hs) (ha δ s σ p.1 p.2 _ h1 ok sv fun s1 x l1 e1 d1 => hb δ s1 σ r.1 r.2 _ (by rw [e1]; exact h3) l1.ok (sv.le l1) fun s2 y l2 e2 d2 => ?_)
    have d1 := d1.le l2
    have qq := fun v dv => q s2 v (l1.trans l2) e2 dv
    clear hK h1 h3 h h2 h4
    obtain ⟨p1, p2⟩ := p
    obtain ⟨r1, r2⟩ := r
    simp only at *
    split at h5
    · split at h5
      · rename_i hz
        cases d1
        cases d2
        obtain ⟨c, h7, rfl⟩ := Option.map_eq_some_iff.mp h5
        exact .inr (.inr ⟨_, _, c, rfl, rfl, Nat.le_trans hz line100k, h7, qq _ (.str _)⟩)
      · cases h5
    · obtain ⟨a, vs, rfl, hr, hs⟩ := tup_view d1
      cases d2
      obtain ⟨v, h7, h8⟩ := atI_v hs h5
      exact .inr (.inl ⟨a, vs, _, v, rfl, rfl, hr, h7, qq v h8⟩)
    · obtain ⟨l, h7, h8⟩ := Option.bind_eq_some_iff.mp h5
      obtain ⟨a, vs, rfl, hr, hs⟩ := asL_view (l := l) (by rw [e2]; exact h7) l2.ok d1
      cases d2
      obtain ⟨v, h7, h8⟩ := atI_v hs h8
      exact .inl ⟨a, vs, _, v, rfl, rfl, .inl (.inl hr), h7, qq v h8⟩
    · cases h5
/-! ### slices -/
abbrev MO := DL → AH → Option (Option Int × AH)
def ROp (X : Cx) (cl : Str → Option Addr) (e : Option Expr) (m : MO) : Prop := ∀ (δ : DL) (s : S) (σ : St) (o : Option Int) (ah' : AH) (Q : Option Int → Hp → Prop), m δ s.ah = some (o, ah') → Ok (gx X cl) s → SV (gx X cl) s δ σ →
  (∀ s', Le (gx X cl) s s' → s'.ah = ah' → Q o s'.H) → ∃ t, PO X e t ∧ t σ s.H Q
def oNone : MO := fun _ ah => some (none, ah)
def oSome (m : ME) : MO := fun δ ah => (m δ ah).bind fun p => match p.1 with | .int i => some (some i, p.2) | _ => none
theorem ro_none : ROp X cl none oNone := fun δ s σ o ah' Q h ok sv q => by
  obtain ⟨rfl, rfl⟩ := Prod.mk.inj (Option.some.inj h)
  exact ⟨_, po_none, q s (Le.refl ok) rfl⟩
theorem ro_some (h : RE X cl e ma) : ROp X cl (some e) (oSome ma) := fun δ s σ o ah' Q h' ok sv q => by
  obtain ⟨⟨z, za⟩, h1, h2⟩ := Option.bind_eq_some_iff.mp h'
  cases z with
  | int i =>
    obtain ⟨rfl, rfl⟩ := Prod.mk.inj (Option.some.inj h2)
    refine ⟨_, po_some peW, h δ s σ _ _ _ h1 ok sv fun s1 v l1 e1 d1 => ?_⟩
    cases d1
    exact ⟨i, rfl, q s1 l1 e1⟩
  | _ => cases h2
theorem po_any {eo : Option Expr} : PO X eo (fun σ H Q => ∃ t, PO X eo t ∧ t σ H Q) := ⟨fun pins s σ H Q I ⟨t, h, q⟩ => h.run pins s σ H Q I q⟩
theorem slr_any : SlR X (fun x lo hi H Q => ∃ r, SlR X r ∧ r x lo hi H Q) := fun pins s σ H x v vl vu lo hi sl Q I rx h1 h2 h3 ⟨r, h, q⟩ => h pins s σ H x v vl vu lo hi sl Q I rx h1 h2 h3 q
def cutL {α : Type} (xs : List α) (lo hi : Option Int) : List α := (xs.drop (HT.sIx xs.length 0 lo)).take (HT.sIx xs.length xs.length hi - HT.sIx xs.length 0 lo)
theorem cutL_v {G : Gx} {s : S} {l : List D} {vs : List V} (h : DVs G s l vs) (lo hi : Option Int) : DVs G s (cutL l lo hi) (cutV vs lo hi) := by
  unfold cutL cutV
  rw [← h.len]
  exact (h.drop _).take _
/-- a[lo:hi] of a text or a tuple -/
def eSlice (a : ME) (lo hi : MO) : ME := fun δ ah => (a δ ah).bind fun p => (lo δ p.2).bind fun l => (hi δ l.2).bind fun u => match p.1 with
  | .str z => if z.length ≤ 100000 then some (.str (cutS z l.1 u.1), u.2) else none
  | .tup xs => if HT.sIx xs.length 0 l.1 = 0 ∧ HT.sIx xs.length xs.length u.1 = xs.length then none else some (.tup (cutL xs l.1 u.1), u.2)
  | _ => none
/-- .. of a list: a new one -/
def fSlice (a : ME) (lo hi : MO) : MA := fun δ ah => (a δ ah).bind fun p => (lo δ p.2).bind fun l => (hi δ l.2).bind fun u => (asR u.2 p.1).map fun xs => (cutL xs l.1 u.1, u.2)
theorem re_slice {lo hi : Option Expr} {mlo mhi : MO} {p2} (ha : RE X cl a ma) (hl : ROp X cl lo mlo) (hh : ROp X cl hi mhi) : RE X cl (.Subscript a (.Slice lo hi none p2) pos) (eSlice ma mlo mhi) := fun δ s σ d ah' Q h ok sv q => by
  obtain ⟨⟨p1, p2⟩, h1, h2⟩ := Option.bind_eq_some_iff.mp h
  obtain ⟨l, h3, h4⟩ := Option.bind_eq_some_iff.mp h2
  obtain ⟨u, h5, h6⟩ := Option.bind_eq_some_iff.mp h4
  refine WE.of (pe_slice slr_any peW po_any po_any) (ha δ s σ _ _ _ h1 ok sv fun s1 x l1 e1 d1 => ?_)
  refine hl δ s1 σ l.1 l.2 _ (by rw [e1]; exact h3) l1.ok (sv.le l1) fun s2 l2 e2 => ?_
  refine hh δ s2 σ u.1 u.2 _ (by rw [e2]; exact h5) l2.ok ((sv.le l1).le l2) fun s3 l3 e3 => ?_
  have d1 := (d1.le l2).le l3
  have L := l1.trans (l2.trans l3)
  cases p1 with
  | str z =>
    simp only at h6
    split at h6
    · rename_i hz
      obtain ⟨rfl, rfl⟩ := Prod.mk.inj (Option.some.inj h6)
      cases d1
      exact ⟨_, sl_str, z, rfl, Nat.le_trans hz line100k, q s3 _ L e3 (.str _)⟩
    · cases h6
  | tup xs =>
    simp only at h6
    split at h6
    · cases h6
    · rename_i hn
      obtain ⟨rfl, rfl⟩ := Prod.mk.inj (Option.some.inj h6)
      obtain ⟨a, vs, rfl, hr, hs⟩ := tup_view d1
      refine ⟨_, sl_tup, a, vs, rfl, hr, by rw [← hs.len]; exact hn, fun t ht => ?_⟩
      have l4 := le_new L.ok ht (.tup (cutV vs l.1 u.1))
      exact q (s3.up t _) _ (L.trans l4) e3 (.tup (.inl upd_same) (fun a => (L.ok.nav ht) a) ((cutL_v hs _ _).le l4))
  | _ => cases h6
theorem rf_slice {lo hi : Option Expr} {mlo mhi : MO} {p2} (ha : RE X cl a ma) (hl : ROp X cl lo mlo) (hh : ROp X cl hi mhi) : RF X cl (.Subscript a (.Slice lo hi none p2) pos) (fSlice ma mlo mhi) := fun δ s σ d ah' Q h ok sv q => by
  obtain ⟨⟨p1, p2⟩, h1, h2⟩ := Option.bind_eq_some_iff.mp h
  obtain ⟨l, h3, h4⟩ := Option.bind_eq_some_iff.mp h2
  obtain ⟨u, h5, h6⟩ := Option.bind_eq_some_iff.mp h4
  obtain ⟨xs, h7, h8⟩ := Option.map_eq_some_iff.mp h6
  obtain ⟨rfl, rfl⟩ := Prod.mk.inj h8
  refine WE.of (pe_slice slr_any peW po_any po_any) (ha δ s σ _ _ _ h1 ok sv fun s1 x l1 e1 d1 => ?_)
  refine hl δ s1 σ l.1 l.2 _ (by rw [e1]; exact h3) l1.ok (sv.le l1) fun s2 l2 e2 => ?_
  refine hh δ s2 σ u.1 u.2 _ (by rw [e2]; exact h5) l2.ok ((sv.le l1).le l2) fun s3 l3 e3 => ?_
  have d1 := (d1.le l2).le l3
  have L := l1.trans (l2.trans l3)
  obtain ⟨a, vs, rfl, hr, hs⟩ := asR_view (l := xs) (by rw [e3]; exact h7) L.ok d1
  exact ⟨_, sl_list, a, vs, rfl, hr, fun t ht => q s3 t _ L e3 ht (cutL_v hs _ _)⟩
/-- xs[::-1] of a list -/
def fRev (a : ME) : MA := fun δ ah => (a δ ah).bind fun p => (asR p.2 p.1).map fun xs => (xs.reverse, p.2)
theorem rf_rev {k : Nat} {p1 p2 p3 : Pos} (ha : RE X cl a ma) : RF X cl (.Subscript a (.Slice none none (some (.UnaryOp .USub (.Constant (.int 1) k p1) p2)) p3) pos) (fRev ma) := fun δ s σ d ah' Q h ok sv q => by
  obtain ⟨p, h1, h2⟩ := Option.bind_eq_some_iff.mp h
  obtain ⟨xs, h7, h8⟩ := Option.map_eq_some_iff.mp h2
  obtain ⟨rfl, rfl⟩ := Prod.mk.inj h8
  refine WE.of (pe_revL peW) (ha δ s σ _ _ _ h1 ok sv fun s1 x l1 e1 d1 => ?_)
  obtain ⟨a, vs, rfl, hr, hs⟩ := asR_view (l := xs) (by rw [e1]; exact h7) l1.ok d1
  exact ⟨a, vs, rfl, hr, fun t ht => q s1 t _ l1 e1 ht hs.reverse⟩
end
end MM

set_option linter.all false
set_option maxRecDepth 100000
namespace MM
open PySem L2

/-! ### sorting, as a function -/
section
variable {α : Type}
def insBy (le : α → α → Bool) (x : α) : List α → List α
  | [] => [x]
  | y :: r => if le x y = true then x :: y :: r else y :: insBy le x r
def sortBy (le : α → α → Bool) : List α → List α
  | [] => []
  | x :: r => insBy le x (sortBy le r)
variable {le : α → α → Bool}
theorem insBy_perm (x : α) : ∀ l : List α, (insBy le x l).Perm (x :: l)
  | [] => .refl _
  | y :: r => by
    unfold insBy
    split
    · exact .refl _
    · exact ((insBy_perm x r).cons y).trans (.swap x y r)
theorem sortBy_perm : ∀ l : List α, (sortBy le l).Perm l
  | [] => .refl _
  | x :: r => (insBy_perm x _).trans ((sortBy_perm r).cons x)
theorem insBy_sorted (tr : ∀ a b c, le a b = true → le b c = true → le a c = true) (to : ∀ a b, le a b = true ∨ le b a = true) (x : α) : ∀ l : List α, l.Pairwise (fun a b => le a b = true) → (insBy le x l).Pairwise (fun a b => le a b = true)
  | [], _ => by simp [insBy]
  | y :: r, h => by
    obtain ⟨h1, h2⟩ := List.pairwise_cons.mp h
    unfold insBy
    split
    · rename_i k
      exact List.pairwise_cons.mpr ⟨fun z hz => (List.mem_cons.mp hz).elim (fun e => e ▸ k) fun e => tr _ _ _ k (h1 z e), h⟩
    · rename_i k
      refine List.pairwise_cons.mpr ⟨fun z hz => ?_, insBy_sorted tr to x r h2⟩
      rcases List.mem_cons.mp ((insBy_perm x r).mem_iff.mp hz) with e | e
      · rw [e]
        exact (to x y).resolve_left k
      · exact h1 z e
theorem sortBy_sorted (tr : ∀ a b c, le a b = true → le b c = true → le a c = true) (to : ∀ a b, le a b = true ∨ le b a = true) : ∀ l : List α, (sortBy le l).Pairwise (fun a b => le a b = true)
  | [] => .nil
  | x :: r => insBy_sorted tr to x _ (sortBy_sorted tr to r)
theorem sortBy_uniq (tr : ∀ a b c, le a b = true → le b c = true → le a c = true) (to : ∀ a b, le a b = true ∨ le b a = true) (an : ∀ a b, le a b = true → le b a = true → a = b) {l m : List α} (hp : m.Perm l) (hs : m.Pairwise (fun a b => le a b = true)) : m = sortBy le l :=
  (hp.trans (sortBy_perm l).symm).eq_of_pairwise (fun a b _ _ h1 h2 => an a b h1 h2) hs (sortBy_sorted tr to l)
end
def leS (a b : Str) : Bool := !decide (b.cps.toList < a.cps.toList)
def leI (a b : Int) : Bool := decide (a ≤ b)
def geI (a b : Int) : Bool := decide (b ≤ a)
theorem str_ext {a b : Str} (h : a.cps.toList = b.cps.toList) : a = b := by
  obtain ⟨⟨a⟩⟩ := a
  obtain ⟨⟨b⟩⟩ := b
  cases h
  rfl
theorem leS_tr (a b c : Str) (h1 : leS a b = true) (h2 : leS b c = true) : leS a c = true := by
  simp only [leS, Bool.not_eq_true', decide_eq_false_iff_not, List.not_lt] at *
  exact List.le_trans h1 h2
theorem leS_to (a b : Str) : leS a b = true ∨ leS b a = true := by
  simp only [leS, Bool.not_eq_true', decide_eq_false_iff_not, List.not_lt]
  exact List.le_total _ _
theorem leS_an (a b : Str) (h1 : leS a b = true) (h2 : leS b a = true) : a = b := by
  simp only [leS, Bool.not_eq_true', decide_eq_false_iff_not, List.not_lt] at *
  exact str_ext (List.le_antisymm h1 h2)
theorem rising_pair : ∀ (l : List Str) (p : Str), PyProof.Rows.risingS p l = true → (p :: l).Pairwise (fun a b => leS a b = true)
  | [], p, _ => by simp
  | x :: r, p, h => by
    rw [PyProof.Rows.risingS, Bool.and_eq_true] at h
    have h1 : leS p x = true := by
      have := h.1
      rw [PyProof.Rows.ltCps_eq] at this
      exact this
    have ih := rising_pair r x h.2
    refine List.pairwise_cons.mpr ⟨fun z hz => ?_, ih⟩
    rcases List.mem_cons.mp hz with e | e
    · rw [e]; exact h1
    · exact leS_tr _ _ _ h1 ((List.pairwise_cons.mp ih).1 z e)
theorem sortedS_pair {l : List Str} (h : PyProof.Rows.sortedS l = true) : l.Pairwise (fun a b => leS a b = true) := by
  cases l with
  | nil => exact .nil
  | cons x r => exact rising_pair r x h
theorem sortS_uniq {l m : List Str} (hp : m.Perm l) (h : PyProof.Rows.sortedS m = true) : m = sortBy leS l := sortBy_uniq leS_tr leS_to leS_an hp (sortedS_pair h)
theorem leI_uniq {l m : List Int} (hp : m.Perm l) (h : m.Pairwise (· ≤ ·)) : m = sortBy leI l :=
  sortBy_uniq (fun a b c h1 h2 => by simp only [leI, decide_eq_true_eq] at *; omega) (fun a b => by simp only [leI, decide_eq_true_eq]; omega) (fun a b h1 h2 => by simp only [leI, decide_eq_true_eq] at *; omega) hp (h.imp fun q => decide_eq_true q)
theorem geI_uniq {l m : List Int} (hp : m.Perm l) (h : m.Pairwise (· ≥ ·)) : m = sortBy geI l :=
  sortBy_uniq (fun a b c h1 h2 => by simp only [geI, decide_eq_true_eq] at *; omega) (fun a b => by simp only [geI, decide_eq_true_eq]; omega) (fun a b h1 h2 => by simp only [geI, decide_eq_true_eq] at *; omega) hp (h.imp fun q => decide_eq_true q)

/-! ### lists of texts, of ints, of truths -/
def strsOf : List D → Option (List Str)
  | [] => some []
  | .str x :: r => (strsOf r).map (x :: ·)
  | _ => none
def intsOf : List D → Option (List Int)
  | [] => some []
  | .int x :: r => (intsOf r).map (x :: ·)
  | _ => none
def blsOf : List D → Option (List Bool)
  | [] => some []
  | .bl x :: r => (blsOf r).map (x :: ·)
  | _ => none
section
variable {G : Gx} {s : S}
theorem strsOf_v : ∀ {l : List D} {vs : List V} {xs : List Str}, DVs G s l vs → strsOf l = some xs → vs = xs.map V.str
  | _, _, _, .nil, h => by cases h; rfl
  | d :: l, _, _, .cons a b, h => by
    cases d with
    | str x =>
      obtain ⟨ys, h1, rfl⟩ := Option.map_eq_some_iff.mp h
      cases a
      rw [strsOf_v b h1]
      rfl
    | _ => cases h
theorem intsOf_v : ∀ {l : List D} {vs : List V} {xs : List Int}, DVs G s l vs → intsOf l = some xs → vs = xs.map V.int
  | _, _, _, .nil, h => by cases h; rfl
  | d :: l, _, _, .cons a b, h => by
    cases d with
    | int x =>
      obtain ⟨ys, h1, rfl⟩ := Option.map_eq_some_iff.mp h
      cases a
      rw [intsOf_v b h1]
      rfl
    | _ => cases h
theorem blsOf_v : ∀ {l : List D} {vs : List V} {xs : List Bool}, DVs G s l vs → blsOf l = some xs → vs = xs.map V.bl
  | _, _, _, .nil, h => by cases h; rfl
  | d :: l, _, _, .cons a b, h => by
    cases d with
    | bl x =>
      obtain ⟨ys, h1, rfl⟩ := Option.map_eq_some_iff.mp h
      cases a
      rw [blsOf_v b h1]
      rfl
    | _ => cases h
theorem strs_dv : ∀ xs : List Str, DVs G s (xs.map D.str) (xs.map V.str)
  | [] => .nil
  | x :: r => .cons (.str x) (strs_dv r)
theorem ints_dv : ∀ xs : List Int, DVs G s (xs.map D.int) (xs.map V.int)
  | [] => .nil
  | x :: r => .cons (.int x) (ints_dv r)
theorem keys_dv : ∀ xs : List Key, DVs G s (xs.map fun k => match k with | .inl i => D.int i | .inr x => D.str x) (xs.map kV)
  | [] => .nil
  | .inl i :: r => .cons (.int i) (keys_dv r)
  | .inr i :: r => .cons (.str i) (keys_dv r)
end
theorem strsOf_map (xs : List Str) : strsOf (xs.map D.str) = some xs := by
  induction xs with
  | nil => rfl
  | cons x r ih => simp [strsOf, ih]
theorem intsOf_map (xs : List Int) : intsOf (xs.map D.int) = some xs := by
  induction xs with
  | nil => rfl
  | cons x r ih => simp [intsOf, ih]
theorem blsOf_map (xs : List Bool) : blsOf (xs.map D.bl) = some xs := by
  induction xs with
  | nil => rfl
  | cons x r ih => simp [blsOf, ih]

/-! ### calls of built-ins by name -/
section
variable (X : Cx) (cl : Str → Option Addr)
def C1 (f : Value) (g : AH → D → Option D) : Prop := ∀ (s : S) (x : V) (d1 d : D) (Q : VK), g s.ah d1 = some d → Ok (gx X cl) s → DV (gx X cl) s d1 x →
  (∀ s' v, Le (gx X cl) s s' → s'.ah = s.ah → DV (gx X cl) s' d v → Q v s'.H) → ∃ r, CallR X f r ∧ r [x] s.H Q
def C2 (f : Value) (g : AH → D → D → Option D) : Prop := ∀ (s : S) (x y : V) (d1 d2 d : D) (Q : VK), g s.ah d1 d2 = some d → Ok (gx X cl) s → DV (gx X cl) s d1 x → DV (gx X cl) s d2 y →
  (∀ s' v, Le (gx X cl) s s' → s'.ah = s.ah → DV (gx X cl) s' d v → Q v s'.H) → ∃ r, CallR X f r ∧ r [x, y] s.H Q
/-- .. that makes a new list -/
def CF (f : Value) (g : AH → D → Option (List D)) : Prop := ∀ (s : S) (x : V) (d1 : D) (l : List D) (Q : VK), g s.ah d1 = some l → Ok (gx X cl) s → DV (gx X cl) s d1 x →
  (∀ p vs, s.H p = none → DVs (gx X cl) s l vs → Q (.ref p) (upd s.H p (.lst vs))) → ∃ r, CallR X f r ∧ r [x] s.H Q
end
abbrev rCA (X : Cx) (f : Value) : List V → Hp → VK → Prop := fun xs H Q => ∃ r, CallR X f r ∧ r xs H Q
theorem callr_any {X : Cx} {f : Value} : CallR X f (rCA X f) := fun pins s σ H xs us Q I rv ⟨r, h, q⟩ => h pins s σ H xs us Q I rv q
def e1 (g : AH → D → Option D) (m : ME) : ME := fun δ ah => (m δ ah).bind fun p => (g p.2 p.1).map fun d => (d, p.2)
def f1 (g : AH → D → Option (List D)) (m : ME) : MA := fun δ ah => (m δ ah).bind fun p => (g p.2 p.1).map fun d => (d, p.2)
section
variable {X : Cx} {cl : Str → Option Addr} {a b e o c : Expr} {rest es : List Expr} {p pos apos cpos : Pos} {ma mb mc mo : ME} {ta tb : MT} {ms : MA} {x name : Str} {id T : String} {f : Value}
/-- hp: pe_callB callr_any (by rfl) T.len boot_len (pa_cons peW pa_nil) -/
theorem re_b1 {g : AH → D → Option D} (hc : C1 X cl f g) (hp : PE X c (tCB (rCA X f) (tCons (WE X e) tNil))) (ha : RE X cl e ma) : RE X cl c (e1 g ma) := fun δ s σ d ah' Q h ok sv q => by
  obtain ⟨z, h1, h2⟩ := Option.bind_eq_some_iff.mp h
  obtain ⟨d', h3, h4⟩ := Option.map_eq_some_iff.mp h2
  obtain ⟨rfl, rfl⟩ := Prod.mk.inj h4
  refine WE.of hp (ha δ s σ z.1 z.2 _ h1 ok sv fun s1 v l1 e1 d1 => ?_)
  exact hc s1 v z.1 d' Q (by rw [e1]; exact h3) l1.ok d1 fun s2 w l2 e2 d2 => q s2 w (l1.trans l2) (e2.trans e1) d2
theorem re_b2 {g : AH → D → D → Option D} (hc : C2 X cl f g) (hp : PE X c (tCB (rCA X f) (tCons (WE X a) (tCons (WE X b) tNil)))) (ha : RE X cl a ma) (hb : RE X cl b mb) : RE X cl c (eBin g ma mb) := fun δ s σ d ah' Q h ok sv q => by
  obtain ⟨z, h1, h2⟩ := Option.bind_eq_some_iff.mp h
  obtain ⟨r, h3, h4⟩ := Option.bind_eq_some_iff.mp h2
  obtain ⟨d', h5, h6⟩ := Option.map_eq_some_iff.mp h4
  obtain ⟨rfl, rfl⟩ := Prod.mk.inj h6
  refine WE.of hp (ha δ s σ z.1 z.2 _ h1 ok sv fun s1 v l1 e1 d1 => ?_)
  refine hb δ s1 σ r.1 r.2 _ (by rw [e1]; exact h3) l1.ok (sv.le l1) fun s2 w l2 e2 d2 => ?_
  exact hc s2 v w z.1 r.1 d' Q (by rw [e2]; exact h5) l2.ok (d1.le l2) d2 fun s3 u l3 e3 d3 => q s3 u (l1.trans (l2.trans l3)) (e3.trans e2) d3
theorem rf_b1 {g : AH → D → Option (List D)} (hc : CF X cl f g) (hp : PE X c (tCB (rCA X f) (tCons (WE X e) tNil))) (ha : RE X cl e ma) : RF X cl c (f1 g ma) := fun δ s σ d ah' Q h ok sv q => by
  obtain ⟨z, h1, h2⟩ := Option.bind_eq_some_iff.mp h
  obtain ⟨d', h3, h4⟩ := Option.map_eq_some_iff.mp h2
  obtain ⟨rfl, rfl⟩ := Prod.mk.inj h4
  refine WE.of hp (ha δ s σ z.1 z.2 _ h1 ok sv fun s1 v l1 e1 d1 => ?_)
  exact hc s1 v z.1 d' Q (by rw [e1]; exact h3) l1.ok d1 fun t vs ht dv => q s1 t vs l1 e1 ht dv
/-! len, int, abs, min, max, all, any -/
def gLen (ah : AH) (d : D) : Option D := match d with
  | .str z => if z.length ≤ 100000 then some (.int z.length) else none
  | .tup l => some (.int l.length)
  | d => match asK ah d with
    | some l => some (.int l.length)
    | none => (asL ah d).map fun l => .int l.length
theorem map_len {α β γ : Type} {l : List α} {m : List β} {f : α → γ} {g : β → γ} (h : l.map f = m.map g) : l.length = m.length := by
  have := congrArg List.length h
  simpa using this
theorem call_lenRd : CallR X (.builtin "len") (fun xs H Q => ∃ a kvs, xs = [V.ref a] ∧ Rd H a (.dK kvs) ∧ Q (.int kvs.length) H) := fun pins s σ H xs us Q I r ⟨a, kvs, e, hr, q⟩ => by
  subst e
  obtain ⟨u, eu, ru⟩ := vals1 r
  subst eu
  cases ru
  exact d_len I hr fun t s' I' => ⟨.int kvs.length, H, I', ⟨t, rfl⟩, q⟩
theorem c_len : C1 X cl (.builtin "len") gLen := fun s x d1 d Q h ok dv q => by
  unfold gLen at h
  split at h
  · split at h
    · rename_i hz
      cases dv
      cases h
      exact ⟨_, call_len, _, _, rfl, ⟨Nat.le_trans hz line100k, rfl⟩, q s _ (Le.refl ok) rfl (.int _)⟩
    · cases h
  · cases h
    obtain ⟨a, vs, rfl, hr, hs⟩ := tup_view dv
    exact ⟨_, call_len_seq, a, vs, rfl, .inr hr, by rw [← hs.len]; exact q s _ (Le.refl ok) rfl (.int _)⟩
  · split at h
    · rename_i l hl
      cases h
      obtain ⟨a, kvs, rfl, hr, hk, hs⟩ := asK_view hl ok dv
      exact ⟨_, call_lenRd, a, kvs, rfl, hr, by rw [map_len hk]; exact q s _ (Le.refl ok) rfl (.int _)⟩
    · obtain ⟨l, h1, rfl⟩ := Option.map_eq_some_iff.mp h
      obtain ⟨a, vs, rfl, hr, hs⟩ := asL_view h1 ok dv
      exact ⟨_, call_len_seq, a, vs, rfl, .inl (.inl (.inl hr)), by rw [← hs.len]; exact q s _ (Le.refl ok) rfl (.int _)⟩
def gInt : AH → D → Option D := fun _ d => match d with | .int i => some (.int i) | .bl b => some (.int (if b = true then 1 else 0)) | _ => none
theorem c_int : C1 X cl (.type "int") gInt := fun s x d1 d Q h ok dv q => by
  unfold gInt at h
  split at h
  · cases dv
    cases h
    exact ⟨_, call_int1, .inl ⟨_, rfl, q s _ (Le.refl ok) rfl (.int _)⟩⟩
  · cases dv
    cases h
    exact ⟨_, call_int1, .inr ⟨_, rfl, q s _ (Le.refl ok) rfl (.int _)⟩⟩
  · cases h
def gAbs : AH → D → Option D := fun _ d => match d with | .int i => some (.int (if i < 0 then -i else i)) | _ => none
theorem c_abs : C1 X cl (.builtin "abs") gAbs := fun s x d1 d Q h ok dv q => by
  unfold gAbs at h
  split at h
  · cases dv
    cases h
    exact ⟨_, call_abs, _, rfl, q s _ (Le.refl ok) rfl (.int _)⟩
  · cases h
abbrev gMin := gI fun i j => .int (if j < i then j else i)
abbrev gMax := gI fun i j => .int (if j > i then j else i)
theorem c_gI {g : Int → Int → Int} (h : CallR X f (fun xs H Q => ∃ i j, xs = [.int i, .int j] ∧ Q (.int (g i j)) H)) : C2 X cl f (gI fun i j => .int (g i j)) := fun s x y d1 d2 d Q e ok h1 h2 q => by
  cases h1 <;> try (cases e)
  cases h2 <;> try (cases e)
  exact ⟨_, h, _, _, rfl, q s _ (Le.refl ok) rfl (.int _)⟩
theorem c_min (hc : X.calm = true := by rfl) : C2 X cl (.builtin "min") gMin := c_gI (call_min2 hc)
theorem c_max (hc : X.calm = true := by rfl) : C2 X cl (.builtin "max") gMax := c_gI (call_max2 hc)
def gAll (ah : AH) (d : D) : Option D := (asL ah d).bind fun l => (blsOf l).map fun bs => .bl (bs.all fun b => b)
def gAny (ah : AH) (d : D) : Option D := (asL ah d).bind fun l => (blsOf l).map fun bs => .bl (bs.any fun b => b)
theorem c_all (hc : X.calm = true := by rfl) : C1 X cl (.builtin "all") gAll := fun s x d1 d Q h ok dv q => by
  obtain ⟨l, h1, h2⟩ := Option.bind_eq_some_iff.mp h
  obtain ⟨bs, h3, rfl⟩ := Option.map_eq_some_iff.mp h2
  obtain ⟨a, vs, rfl, hr, hs⟩ := asL_view h1 ok dv
  have e := blsOf_v hs h3
  subst e
  exact ⟨_, cr_all hc, a, bs, rfl, .inl (.inl hr), q s _ (Le.refl ok) rfl (.bl _)⟩
theorem c_any (hc : X.calm = true := by rfl) : C1 X cl (.builtin "any") gAny := fun s x d1 d Q h ok dv q => by
  obtain ⟨l, h1, h2⟩ := Option.bind_eq_some_iff.mp h
  obtain ⟨bs, h3, rfl⟩ := Option.map_eq_some_iff.mp h2
  obtain ⟨a, vs, rfl, hr, hs⟩ := asL_view h1 ok dv
  have e := blsOf_v hs h3
  subst e
  exact ⟨_, cr_any hc, a, bs, rfl, .inl (.inl hr), q s _ (Le.refl ok) rfl (.bl _)⟩
/-! tuple(x), list(x), sorted(x) -/
def gTuple (ah : AH) (d : D) : Option D := match d with
  | .tup l => some (.tup l)
  | d => (asL ah d).map .tup
theorem c_tuple : C1 X cl (.type "tuple") gTuple := fun s x d1 d Q h ok dv q => by
  unfold gTuple at h
  split at h
  · cases h
    have dv' := dv
    obtain ⟨a, vs, rfl, hr, hs⟩ := tup_view dv
    exact ⟨_, call_tuple_of, a, vs, rfl, .inr ⟨hr, q s _ (Le.refl ok) rfl dv'⟩⟩
  · obtain ⟨l, h1, rfl⟩ := Option.map_eq_some_iff.mp h
    obtain ⟨a, vs, rfl, hr, hs⟩ := asL_view h1 ok dv
    refine ⟨_, call_tuple_of, a, vs, rfl, .inl ⟨.inl (.inl hr), fun t ht => ?_⟩⟩
    have l2 := le_new ok ht (.tup vs)
    exact q (s.up t _) _ l2 rfl (.tup (.inl upd_same) (fun a => (ok.nav ht) a) (hs.le l2))
def keyD : Key → D
  | .inl i => .int i
  | .inr x => .str x
theorem keysD_dv {G : Gx} {s : S} : ∀ xs : List Key, DVs G s (xs.map keyD) (xs.map kV)
  | [] => .nil
  | .inl i :: r => .cons (.int i) (keysD_dv r)
  | .inr i :: r => .cons (.str i) (keysD_dv r)
def gList (ah : AH) (d : D) : Option (List D) := match d with
  | .tup l => some l
  | d => match asK ah d with
    | some l => some (l.map fun kv => keyD kv.1)
    | none => asR ah d
theorem c_list (hc : X.calm = true := by rfl) : CF X cl (.type "list") gList := fun s x d1 l Q h ok dv q => by
  unfold gList at h
  split at h
  · cases h
    obtain ⟨a, vs, rfl, hr, hs⟩ := tup_view dv
    exact ⟨_, call_list_of, a, vs, rfl, .inr hr, fun t ht => q t vs ht hs⟩
  · split at h
    · rename_i m hm
      cases h
      obtain ⟨a, kvs, rfl, hr, hk, hs⟩ := asK_view hm ok dv
      refine ⟨_, call_listD hc, a, kvs, rfl, hr, fun t ht => q t _ ht ?_⟩
      have e1 : (kvs.map fun kv => kV kv.1) = (m.map (·.1)).map kV := by rw [← hk, List.map_map]; rfl
      have e2 : (m.map fun kv => keyD kv.1) = (m.map (·.1)).map keyD := by rw [List.map_map]; rfl
      rw [e1, e2]
      exact keysD_dv _
    · obtain ⟨a, vs, rfl, hr, hs⟩ := asR_view h ok dv
      exact ⟨_, call_list_of, a, vs, rfl, .inl hr, fun t ht => q t vs ht hs⟩
def gSorted (ah : AH) (d : D) : Option (List D) := match asK ah d with
  | some l => (strsOf (l.map fun kv => keyD kv.1)).bind fun xs => if xs.length < 64 then some ((sortBy leS xs).map .str) else none
  | none => match d with
    | .tup l => none
    | d => (asR ah d).bind fun l => match strsOf l with
      | some xs => if xs.length < 64 then some ((sortBy leS xs).map .str) else none
      | none => (intsOf l).map fun xs => (sortBy leI xs).map .int
theorem keys_strs : ∀ {l : List (Key × D)} {xs : List Str}, strsOf (l.map fun kv => keyD kv.1) = some xs → l.map (·.1) = xs.map Sum.inr
  | [], _, h => by cases h; rfl
  | (.inl i, d) :: r, _, h => by cases h
  | (.inr x, d) :: r, _, h => by
    obtain ⟨ys, h1, rfl⟩ := Option.map_eq_some_iff.mp h
    simp [keys_strs h1]
theorem c_sorted (hc : X.calm = true := by rfl) : CF X cl (.builtin "sorted") gSorted := fun s x d1 l Q h ok dv q => by
  unfold gSorted at h
  split at h
  · rename_i m hm
    obtain ⟨xs, h1, h2⟩ := Option.bind_eq_some_iff.mp h
    split at h2
    · rename_i h64
      cases h2
      obtain ⟨a, kvs, rfl, hr, hk, hs⟩ := asK_view hm ok dv
      refine ⟨_, call_sortedD hc, a, kvs, xs, rfl, hr, hk.trans (keys_strs h1), h64, fun ys t hp hso ht => ?_⟩
      rw [sortS_uniq hp hso]
      exact q t _ ht (strs_dv _)
    · cases h2
  · split at h
    · cases h
    · obtain ⟨m, h1, h2⟩ := Option.bind_eq_some_iff.mp h
      obtain ⟨a, vs, rfl, hr, hs⟩ := asR_view h1 ok dv
      split at h2
      · rename_i xs hx
        split at h2
        · rename_i h64
          cases h2
          have e := strsOf_v hs hx
          subst e
          refine ⟨_, cr_sortedS, a, xs, rfl, hr, h64, fun ys t hp hso ht => ?_⟩
          rw [sortS_uniq hp hso]
          exact q t _ ht (strs_dv _)
        · cases h2
      · obtain ⟨xs, hx, rfl⟩ := Option.map_eq_some_iff.mp h2
        have e := intsOf_v hs hx
        subst e
        refine ⟨_, cr_sortedI, a, xs, rfl, hr, fun ys t hp hso ht => ?_⟩
        rw [leI_uniq hp hso]
        exact q t _ ht (ints_dv _)
/-- sorted(xs, reverse=True) of ints -/
def fSortedR (m : ME) : MA := fun δ ah => (m δ ah).bind fun p => (asR p.2 p.1).bind fun l => (intsOf l).map fun xs => ((sortBy geI xs).map .int, p.2)
theorem rf_sortedR {kpos : Pos} {k : Nat} {kp : Pos} {r : List V → List V → Hp → VK → Prop} (hr : r = rSortedKw X.K true [.bl true]) (hp : PE X c (tCKw r (tCons (WE X e) tNil) (tCons (tC (.bl true)) tNil))) (ha : RE X cl e ma) : RF X cl c (fSortedR ma) := fun δ s σ d ah' Q h ok sv q => by
  obtain ⟨z, h1, h2⟩ := Option.bind_eq_some_iff.mp h
  obtain ⟨l, h3, h4⟩ := Option.bind_eq_some_iff.mp h2
  obtain ⟨xs, h5, h6⟩ := Option.map_eq_some_iff.mp h4
  obtain ⟨rfl, rfl⟩ := Prod.mk.inj h6
  subst hr
  refine WE.of hp (ha δ s σ z.1 z.2 _ h1 ok sv fun s1 v l1 e1 d1 => ?_)
  obtain ⟨a, vs, rfl, hr, hs⟩ := asR_view (l := l) (by rw [e1]; exact h3) l1.ok d1
  have e := intsOf_v hs h5
  subst e
  refine ⟨a, xs, rfl, rfl, hr, fun ys t hp hso ht => ?_⟩
  rw [geI_uniq hp (by simpa [OrdB] using hso)]
  exact q s1 t _ l1 e1 ht (ints_dv _)
/-! dict(d) -/
def dDict (m : ME) : DL → AH → Option (List (Key × D) × AH) := fun δ ah => (m δ ah).bind fun p => (asK p.2 p.1).map fun l => (l, p.2)
theorem rd_dict (hp : PE X c (tCB (rCA X (.type "dict")) (tCons (WE X e) tNil))) (ha : RE X cl e ma) : RD X cl c (dDict ma) := fun δ s σ d ah' Q h ok sv q => by
  obtain ⟨z, h1, h2⟩ := Option.bind_eq_some_iff.mp h
  obtain ⟨l, h3, h4⟩ := Option.map_eq_some_iff.mp h2
  obtain ⟨rfl, rfl⟩ := Prod.mk.inj h4
  refine WE.of hp (ha δ s σ z.1 z.2 _ h1 ok sv fun s1 v l1 e1 d1 => ?_)
  obtain ⟨a, kvs, rfl, hr, hk, hs⟩ := asK_view (l := l) (by rw [e1]; exact h3) l1.ok d1
  exact ⟨_, call_dictD, a, kvs, rfl, hr, fun t ht => q s1 t kvs l1 e1 ht hk hs⟩
/-- {} -/
def dNew : DL → AH → Option (List (Key × D) × AH) := fun _ ah => some ([], ah)
theorem rd_new : RD X cl (.Dict [] [] pos) dNew := fun δ s σ d ah' Q h ok sv q => by
  obtain ⟨rfl, rfl⟩ := Prod.mk.inj (Option.some.inj h)
  exact WE.of pe_dnewK fun t ht => q s t [] (Le.refl ok) rfl ht rfl .nil
end
end MM

set_option linter.all false
set_option maxRecDepth 100000
namespace MM
open PySem L2

abbrev rMA (X : Cx) (id : String) : V → List V → Hp → VK → Prop := fun x xs H Q => ∃ r, MtR X id r ∧ r x xs H Q
theorem mtr_any {X : Cx} {id : String} : MtR X id (rMA X id) := fun pins s σ H x xs v us Q I rx rs ⟨r, h, q⟩ => h pins s σ H x xs v us Q I rx rs q

/-! ### methods that write their list -/
def MutS (X : Cx) (cl : Str → Option Addr) (id : String) (g : AH → List D → List D → Option (D × List D)) : Prop := ∀ (s : S) (a : Addr) (l : List D) (vs : List V) (ds : List D) (ws : List V) (d : D) (l' : List D) (Q : VK), g s.ah l ds = some (d, l') → Ok (gx X cl) s →
  s.H a = some (.lst vs) → DVs (gx X cl) s l vs → DVs (gx X cl) s ds ws → (∀ v vs', DVs (gx X cl) s l' vs' → DV (gx X cl) s d v → Q v (upd s.H a (.lst vs'))) → ∃ r, MtR X id r ∧ r (.ref a) ws s.H Q
def lstAt (ah : AH) (n : Nat) : Option (List D) := match ah[n]? with | some (.lst l) => some l | _ => none
theorem lstAt_some {ah : AH} {n : Nat} {l : List D} (h : lstAt ah n = some l) : ah[n]? = some (.lst l) := by
  unfold lstAt at h
  split at h
  · rename_i m e
    rw [e]
    exact congrArg (fun z => some (AO.lst z)) (Option.some.inj h)
  · cases h
def eMut (g : AH → List D → List D → Option (D × List D)) (mo : ME) (ma : MA) : ME := fun δ ah => (mo δ ah).bind fun p => match p.1 with
  | .ptr n => (lstAt p.2 n).bind fun _ => (ma δ p.2).bind fun q => (lstAt q.2 n).bind fun l => (g q.2 l q.1).map fun r => (r.1, q.2.set n (.lst r.2))
  | _ => none
section
variable {X : Cx} {cl : Str → Option Addr} {a b e o c : Expr} {rest es : List Expr} {p pos apos cpos : Pos} {ma mb mc mo : ME} {ta tb : MT} {ms : MA} {x name : Str} {id T : String} {f : Value}
theorem mut_step {g : AH → List D → List D → Option (D × List D)} (hm : MutS X cl id g) {s : S} {n : Nat} {v : V} {l l' ds : List D} {ws : List V} {d : D} {Q : VK} (ok : Ok (gx X cl) s) (dv : DV (gx X cl) s (.ptr n) v) (hl : lstAt s.ah n = some l) (hd : DVs (gx X cl) s ds ws)
    (h : g s.ah l ds = some (d, l')) (q : ∀ s' w, Le (gx X cl) s s' → s'.ah = s.ah.set n (.lst l') → DV (gx X cl) s' d w → Q w s'.H) : rMA X id v ws s.H Q := by
  obtain ⟨a, ea, rfl⟩ := ptr_at dv
  have e := lstAt_some hl
  obtain ⟨vs, h1, h2⟩ := ok.obj n a _ ea e
  refine hm s a l vs ds ws d l' Q h ok h1 h2 hd fun w vs' d1 d2 => ?_
  have g := gr_put ea e (by intro q; cases q) (.lst l') (.lst vs')
  have l2 : Le (gx X cl) s (s.put n a (.lst l') (.lst vs')) := le_put ok ea e (by intro q; cases q) ⟨vs', upd_same, d1.mono g⟩
  exact q _ w l2 rfl (d2.mono g)
theorem ptr_ty {s : S} {n : Nat} {v : V} {l : List D} (ok : Ok (gx X cl) s) (dv : DV (gx X cl) s (.ptr n) v) (hl : lstAt s.ah n = some l) : tyV X.K "list" v s.H := by
  obtain ⟨a, ea, rfl⟩ := ptr_at dv
  obtain ⟨vs, h1, _⟩ := ok.obj n a _ ea (lstAt_some hl)
  exact .inl ⟨rfl, vs, .inl (.inl h1)⟩
/-- hp: pe_bm plainAttrs_list slot type mtr_any peW paW -/
theorem re_mut {g : AH → List D → List D → Option (D × List D)} (hm : MutS X cl id g) (hp : PE X c (tBM X.K "list" (rMA X id) (WE X o) (WA X es))) (ho : RE X cl o mo) (ha : RA X cl es ms) : RE X cl c (eMut g mo ms) := fun δ s σ d ah' Q h ok sv q => by
  obtain ⟨⟨z, za⟩, h1, h2⟩ := Option.bind_eq_some_iff.mp h
  cases z with
  | ptr n =>
    obtain ⟨l0, h3, h4⟩ := Option.bind_eq_some_iff.mp h2
    obtain ⟨r, h5, h6⟩ := Option.bind_eq_some_iff.mp h4
    obtain ⟨l, h7, h8⟩ := Option.bind_eq_some_iff.mp h6
    obtain ⟨u, h9, h10⟩ := Option.map_eq_some_iff.mp h8
    obtain ⟨rfl, rfl⟩ := Prod.mk.inj h10
    refine WE.of hp (ho δ s σ _ _ _ h1 ok sv fun s1 v l1 e1 d1 => ⟨ptr_ty l1.ok d1 (by rw [e1]; exact h3), ?_⟩)
    refine ha δ s1 σ r.1 r.2 _ (by rw [e1]; exact h5) l1.ok (sv.le l1) fun s2 ws l2 e2 d2 => ?_
    exact mut_step hm l2.ok (d1.le l2) (by rw [e2]; exact h7) d2 (by rw [e2]; exact h9) fun s3 w l3 e3 d3 => q s3 w (l1.trans (l2.trans l3)) (by rw [e3, e2]) d3
  | _ => cases h2
/-- .. without arguments -/
theorem re_mut0 {g : AH → List D → List D → Option (D × List D)} (hm : MutS X cl id g) (hp : PE X c (tBM0 X.K "list" (rMA X id) (WE X o))) (ho : RE X cl o mo) : RE X cl c (eMut g mo aNil) := fun δ s σ d ah' Q h ok sv q => by
  obtain ⟨⟨z, za⟩, h1, h2⟩ := Option.bind_eq_some_iff.mp h
  cases z with
  | ptr n =>
    obtain ⟨l0, h3, h4⟩ := Option.bind_eq_some_iff.mp h2
    obtain ⟨r, h5, h6⟩ := Option.bind_eq_some_iff.mp h4
    obtain ⟨l, h7, h8⟩ := Option.bind_eq_some_iff.mp h6
    obtain ⟨u, h9, h10⟩ := Option.map_eq_some_iff.mp h8
    obtain ⟨rfl, rfl⟩ := Prod.mk.inj h10
    cases h5
    refine WE.of hp (ho δ s σ _ _ _ h1 ok sv fun s1 v l1 e1 d1 => ⟨ptr_ty l1.ok d1 (by rw [e1]; exact h3), ?_⟩)
    exact mut_step hm l1.ok d1 (by rw [e1]; exact h7) .nil (by rw [e1]; exact h9) fun s3 w l3 e3 d3 => q s3 w (l1.trans l3) (by rw [e3, e1]) d3
  | _ => cases h2
def gAppend : AH → List D → List D → Option (D × List D) := fun _ l ds => match ds with | [d] => if l.length < 100000 then some (.non, l ++ [d]) else none | _ => none
theorem m_append : MutS X cl "list.append" gAppend := fun s a l vs ds ws d l' Q h ok ha hl hd q => by
  unfold gAppend at h
  split at h
  · split at h
    · rename_i hz
      obtain ⟨rfl, rfl⟩ := Prod.mk.inj (Option.some.inj h)
      cases hd with
      | cons d1 d2 =>
        cases d2
        exact ⟨_, mt_append, a, vs, _, rfl, rfl, ha, Nat.lt_of_lt_of_le (by rw [← hl.len]; exact hz) line100k, q _ _ (hl.append (.cons d1 .nil)) .non⟩
    · cases h
  · cases h
def gExtend : AH → List D → List D → Option (D × List D) := fun ah l ds => match ds with | [d] => (asL ah d).bind fun m => if l.length + m.length ≤ 100000 then some (.non, l ++ m) else none | _ => none
theorem m_extend : MutS X cl "list.extend" gExtend := fun s a l vs ds ws d l' Q h ok ha hl hd q => by
  unfold gExtend at h
  split at h
  · obtain ⟨m, h1, h2⟩ := Option.bind_eq_some_iff.mp h
    split at h2
    · rename_i hz
      obtain ⟨rfl, rfl⟩ := Prod.mk.inj (Option.some.inj h2)
      cases hd with
      | cons d1 d2 =>
        cases d2
        obtain ⟨b, us, rfl, hr, hs⟩ := asL_view h1 ok d1
        exact ⟨_, mt_extend, a, b, vs, us, rfl, rfl, ha, hr, Nat.le_trans (by rw [← hl.len, ← hs.len]; exact hz) line100k, q _ _ (hl.append hs) .non⟩
    · cases h2
  · cases h
def gPop : AH → List D → List D → Option (D × List D) := fun _ l ds => match ds with | [] => (l[l.length - 1]?).map fun d => (d, l.dropLast) | _ => none
theorem m_pop : MutS X cl "list.pop" gPop := fun s a l vs ds ws d l' Q h ok ha hl hd q => by
  unfold gPop at h
  split at h
  · obtain ⟨d', h1, h2⟩ := Option.map_eq_some_iff.mp h
    obtain ⟨rfl, rfl⟩ := Prod.mk.inj h2
    cases hd
    obtain ⟨v, h3, h4⟩ := hl.get h1
    exact ⟨_, mt_pop, a, vs, v, rfl, rfl, ha, by rw [← hl.len]; exact h3, q _ _ hl.dropLast h4⟩
  · cases h
def gPopAt : AH → List D → List D → Option (D × List D) := fun _ l ds => match ds with
  | [.int i] => if 0 ≤ i ∧ i < 1000000 then (l[i.toNat]?).map fun d => (d, l.eraseIdx i.toNat) else none
  | _ => none
theorem m_popAt : MutS X cl "list.pop" gPopAt := fun s a l vs ds ws d l' Q h ok ha hl hd q => by
  unfold gPopAt at h
  split at h
  · rename_i i
    split at h
    · rename_i hi
      obtain ⟨d', h1, h2⟩ := Option.map_eq_some_iff.mp h
      obtain ⟨rfl, rfl⟩ := Prod.mk.inj h2
      cases hd with
      | cons d1 d2 =>
        cases d1
        cases d2
        obtain ⟨v, h3, h4⟩ := hl.get h1
        have hlt := (List.getElem?_eq_some_iff.mp h3).1
        refine ⟨_, mt_popAt, a, vs, i, i.toNat, v, rfl, rfl, ha, by omega, by omega, ?_, h3, q _ _ (hl.eraseIdx _) h4⟩
        exact seqIndex_of hi.1 (by omega)
    · cases h
  · cases h
def gReverse : AH → List D → List D → Option (D × List D) := fun _ l ds => match ds with | [] => some (.non, l.reverse) | _ => none
theorem m_reverse : MutS X cl "list.reverse" gReverse := fun s a l vs ds ws d l' Q h ok ha hl hd q => by
  unfold gReverse at h
  split at h
  · obtain ⟨rfl, rfl⟩ := Prod.mk.inj (Option.some.inj h)
    cases hd
    exact ⟨_, mt_reverse, a, vs, rfl, rfl, ha, q _ _ hl.reverse .non⟩
  · cases h
def gClear : AH → List D → List D → Option (D × List D) := fun _ l ds => match ds with | [] => some (.non, []) | _ => none
theorem m_clear : MutS X cl "list.clear" gClear := fun s a l vs ds ws d l' Q h ok ha hl hd q => by
  unfold gClear at h
  split at h
  · obtain ⟨rfl, rfl⟩ := Prod.mk.inj (Option.some.inj h)
    cases hd
    exact ⟨_, mt_clear, a, vs, rfl, rfl, ha, q _ _ .nil .non⟩
  · cases h
def gInsert : AH → List D → List D → Option (D × List D) := fun _ l ds => match ds with
  | [.int i, d] => if 0 ≤ i ∧ i < 1000000 ∧ l.length < 100000 then some (.non, l.take i.toNat ++ [d] ++ l.drop i.toNat) else none
  | _ => none
theorem m_insert : MutS X cl "list.insert" gInsert := fun s a l vs ds ws d l' Q h ok ha hl hd q => by
  unfold gInsert at h
  split at h
  · rename_i i d'
    split at h
    · rename_i hi
      obtain ⟨rfl, rfl⟩ := Prod.mk.inj (Option.some.inj h)
      cases hd with
      | cons d1 d2 =>
        cases d1
        cases d2 with
        | cons d3 d4 =>
          cases d4
          exact ⟨_, mt_insert, a, vs, i, _, rfl, rfl, ha, Nat.lt_of_lt_of_le (by rw [← hl.len]; exact hi.2.2) line100k, hi.1, by omega, q _ _ (((hl.take _).append (.cons d3 .nil)).append (hl.drop _)) .non⟩
    · cases h
  · cases h
/-! ### methods of data -/
def gJoin (ah : AH) (x y : D) : Option D := match x with
  | .str a => (match y with | .tup l => some l | y => asL ah y).bind fun l => (strsOf l).bind fun ys => if (ys.map Str.length).sum + ys.length * a.length ≤ 100000 then some (.str (Txt.join a ys)) else none
  | _ => none
def eJoin (mo ma : ME) : ME := eBin gJoin mo ma
theorem join_line : (100000 : Nat) ≤ 16777216 := by decide
/-- hp: pe_bm0-like: pe_m1 slot_str_join type_str_join mtr_any peW peW -/
theorem re_join (hp : PE X c (tM1 (rMA X "str.join") (WE X o) (WE X e))) (ho : RE X cl o mo) (ha : RE X cl e ma) : RE X cl c (eJoin mo ma) := fun δ s σ d ah' Q h ok sv q => by
  obtain ⟨⟨z, za⟩, h1, h2⟩ := Option.bind_eq_some_iff.mp h
  obtain ⟨r, h3, h4⟩ := Option.bind_eq_some_iff.mp h2
  obtain ⟨d', h5, h6⟩ := Option.map_eq_some_iff.mp h4
  obtain ⟨rfl, rfl⟩ := Prod.mk.inj h6
  cases z with
  | str a =>
    unfold gJoin at h5
    obtain ⟨l, h7, h8⟩ := Option.bind_eq_some_iff.mp h5
    obtain ⟨ys, h9, h10⟩ := Option.bind_eq_some_iff.mp h8
    split at h10
    · rename_i hz
      cases h10
      refine WE.of hp (ho δ s σ _ _ _ h1 ok sv fun s1 v l1 e1 d1 => ?_)
      cases d1
      refine ⟨⟨a, rfl⟩, ha δ s1 σ r.1 r.2 _ (by rw [e1]; exact h3) l1.ok (sv.le l1) fun s2 w l2 e2 d2 => ?_⟩
      have fin : ∀ p vs, w = V.ref p → (SqL X.K s2.H p vs ∨ SqT X.K s2.H p vs) → DVs (gx X cl) s2 l vs → rMA X "str.join" (.str a) [w] s2.H Q := fun p vs ew hr hs => by
        have e := strsOf_v hs h9
        subst e
        exact ⟨_, mt_join, a, p, ys, rfl, by rw [ew], hr, Nat.le_trans hz join_line, q s2 _ (l1.trans l2) e2 (.str _)⟩
      split at h7
      · rename_i m em
        cases h7
        rw [em] at d2
        obtain ⟨p, vs, ew, hr, hs⟩ := tup_view d2
        exact fin p vs ew (.inr hr) hs
      · obtain ⟨p, vs, ew, hr, hs⟩ := asL_view (l := l) (by rw [e2]; exact h7) l2.ok d2
        exact fin p vs ew (.inl (.inl (.inl hr))) hs
    · cases h10
  | _ => cases h5
/-- s.index(t), found -/
def gSIndex (_ : AH) (x y : D) : Option D := match x, y with
  | .str a, .str b => match Builtin.Str.occurrences a b 0 a.length 1 with | i :: _ => some (.int (i : Nat)) | [] => none
  | _, _ => none
def eSIndex (mo ma : ME) : ME := eBin gSIndex mo ma
theorem re_sindex (hp : PE X c (tM1 (rMA X "str.index") (WE X o) (WE X e))) (ho : RE X cl o mo) (ha : RE X cl e ma) : RE X cl c (eSIndex mo ma) := fun δ s σ d ah' Q h ok sv q => by
  obtain ⟨⟨z, za⟩, h1, h2⟩ := Option.bind_eq_some_iff.mp h
  obtain ⟨⟨r, ra⟩, h3, h4⟩ := Option.bind_eq_some_iff.mp h2
  obtain ⟨d', h5, h6⟩ := Option.map_eq_some_iff.mp h4
  obtain ⟨rfl, rfl⟩ := Prod.mk.inj h6
  unfold gSIndex at h5
  simp only at h5
  split at h5
  · rename_i a b
    split at h5
    · rename_i i rs ho'
      cases h5
      refine WE.of hp (ho δ s σ _ _ _ h1 ok sv fun s1 v l1 e1 d1 => ?_)
      cases d1
      refine ⟨⟨a, rfl⟩, ha δ s1 σ _ _ _ (by rw [e1]; exact h3) l1.ok (sv.le l1) fun s2 w l2 e2 d2 => ?_⟩
      cases d2
      exact ⟨_, mt_sindex, a, b, i, rs, rfl, rfl, ho', q s2 _ (l1.trans l2) e2 (.int _)⟩
    · cases h5
  · cases h5
/-- a written tuple of texts: its place -/
structure Tc (K : PySem.W.Frag) (mg : Str → Option Value) (x : Str) (a : Addr) (xs : List Str) : Prop where
  at_ : mg x = some (.ref a)
  ex : ∃ o its n, K.lookup a = some o ∧ o.cls = .type "tuple" ∧ o.dict = none ∧ o.data = .seq its n ∧ its.size ≤ sizeLine ∧ Vals (xs.map V.str) its.toList
theorem Tc.gc {K : PySem.W.Frag} {mg : Str → Option Value} {x : Str} {a : Addr} {xs : List Str} (t : Tc K mg x a xs) : Gc K mg x (.tup (xs.map .str)) := by
  obtain ⟨o, its, n, h1, h2, h3, h4, h5, h6⟩ := t.ex
  exact ⟨_, .ref a, t.at_, rfl, fun cl s => .tupK h1 h2 h4 h5 h6 (strs_dv xs)⟩
def idxS (z : Str) : List Str → Option Nat
  | [] => none
  | x :: r => if x = z then some 0 else (idxS z r).map (· + 1)
theorem idxS_at {z : Str} : ∀ {xs : List Str} {j : Nat}, idxS z xs = some j → xs[j]? = some z ∧ ∀ m, m < j → xs[m]? ≠ some z
  | [], _, h => by cases h
  | x :: r, j, h => by
    unfold idxS at h
    split at h
    · rename_i e
      cases h
      exact ⟨by rw [e]; rfl, fun m hm => absurd hm (Nat.not_lt_zero _)⟩
    · rename_i e
      obtain ⟨k, h1, rfl⟩ := Option.map_eq_some_iff.mp h
      obtain ⟨h2, h3⟩ := idxS_at h1
      refine ⟨by simpa using h2, fun m hm => ?_⟩
      cases m with
      | zero => simpa using e
      | succ m => simpa using h3 m (by omega)
def eTIndex (xs : List Str) (ma : ME) : ME := fun δ ah => (ma δ ah).bind fun p => match p.1 with | .str z => (idxS z xs).map fun j => (.int (j : Nat), p.2) | _ => none
/-- hp: pe_bm plainAttrs_tuple slot_tuple_index type_tuple_index mtr_any (pe_glob (by rfl) t.at_ rfl) (pa_cons peW pa_nil) -/
theorem re_tindex {xs : List Str} {a : Addr} (t : Tc X.K X.mg x a xs) (hp : PE X c (tBM X.K "tuple" (rMA X "tuple.index") (tC (.ref a)) (tCons (WE X e) tNil))) (ha : RE X cl e ma) : RE X cl c (eTIndex xs ma) := fun δ s σ d ah' Q h ok sv q => by
  obtain ⟨⟨z, za⟩, h1, h2⟩ := Option.bind_eq_some_iff.mp h
  cases z with
  | str z =>
    obtain ⟨j, h3, h4⟩ := Option.map_eq_some_iff.mp h2
    obtain ⟨rfl, rfl⟩ := Prod.mk.inj h4
    obtain ⟨o, its, n, k1, k2, k3, k4, k5, k6⟩ := t.ex
    obtain ⟨i1, i2⟩ := idxS_at h3
    refine WE.of hp ⟨.inr (.inl ⟨rfl, o, k1, k2, k3⟩), ha δ s σ _ _ _ h1 ok sv fun s1 v l1 e1 d1 => ?_⟩
    cases d1
    exact ⟨_, mt_tup_index, a, xs, z, j, rfl, rfl, .inr ⟨o, its, n, k1, k2, k4, k5, k6⟩, i1, i2, q s1 _ l1 e1 (.int _)⟩
  | _ => cases h2
end
end MM

set_option linter.all false
set_option maxRecDepth 100000
namespace MM
open PySem L2

/-! ### statements' mirrors -/
inductive Out where
  | nx (δ : DL) | rt (d : D) | bk (δ : DL) | ct (δ : DL)
abbrev MS := DL → AH → Option (Out × AH)
abbrev MF := List D → AH → Option (D × AH)
def EndOk (G : Gx) (E : Ends) (s : S) : Out → Prop
  | .nx δ => ∀ σ, SV G s δ σ → E.nx σ s.H
  | .rt d => ∀ v, DV G s d v → E.rt v s.H
  | .bk δ => ∀ σ, SV G s δ σ → E.bk σ s.H
  | .ct δ => ∀ σ, SV G s δ σ → E.ct σ s.H
def RS (X : Cx) (cl : Str → Option Addr) (st : Stmt) (m : MS) : Prop := ∀ (δ : DL) (s : S) (σ : St) (o : Out) (ah' : AH) (E : Ends), m δ s.ah = some (o, ah') → Ok (gx X cl) s → SV (gx X cl) s δ σ →
  (∀ s', Le (gx X cl) s s' → s'.ah = ah' → EndOk (gx X cl) E s' o) → WS X st E σ s.H
def RSs (X : Cx) (cl : Str → Option Addr) (st : List Stmt) (m : MS) : Prop := ∀ (δ : DL) (s : S) (σ : St) (o : Out) (ah' : AH) (E : Ends), m δ s.ah = some (o, ah') → Ok (gx X cl) s → SV (gx X cl) s δ σ →
  (∀ s', Le (gx X cl) s s' → s'.ah = ah' → EndOk (gx X cl) E s' o) → WSs X st E σ s.H

/-! ### what a def promises -/
def trim (ah : AH) (p : D × AH) : D × AH := if (D.bd ah.length p.1 && (p.2.take ah.length).all (AO.bd ah.length)) = true then (p.1, p.2.take ah.length) else p
theorem trim_step {G : Gx} {s s' : S} {d d' : D} {v : V} {ah' : AH} (ok : Ok G s) (l : Le G s s') (x : DV G s' d v) (h : trim s.ah (d, s'.ah) = (d', ah')) : ∃ s'', Le G s s'' ∧ s''.ah = ah' ∧ s''.H = s'.H ∧ DV G s'' d' v := by
  unfold trim at h
  split at h
  · rename_i hc
    rw [Bool.and_eq_true] at hc
    obtain ⟨rfl, rfl⟩ := Prod.mk.inj h
    obtain ⟨l2, c⟩ := le_trim ok l hc.2
    exact ⟨_, l2, rfl, rfl, x.cut c (by rw [ok.len]; exact hc.1)⟩
  · obtain ⟨rfl, rfl⟩ := Prod.mk.inj h
    exact ⟨s', l, rfl, rfl, x⟩
def mfn (n k : Nat) (ms : MS) : MF := fun ds ah => if ds.length = k then (ms (ds.map some ++ List.replicate (n - k) none) ah).bind fun o => match o.1 with
  | .rt d => some (trim ah (d, o.2))
  | .nx _ => some (trim ah (.non, o.2))
  | _ => none
  else none
def spM (K : PySem.W.Frag) (cl : Str → Option Addr) (mf : MF) (k : Nat) : Sp := fun vs H Q _ => vs.length = k ∧ ∃ s ds d ah', s.H = H ∧ mf ds s.ah = some (d, ah') ∧ Ok ⟨K, cl⟩ s ∧ DVs ⟨K, cl⟩ s ds vs ∧ ∀ s' v, Le ⟨K, cl⟩ s s' → s'.ah = ah' → DV ⟨K, cl⟩ s' d v → Q v s'.H
theorem sv_start {G : Gx} {s : S} {N : List Str} {ds : List D} {vs : List V} {k : Nat} (h : DVs G s ds vs) (hk : vs.length = k) : SV G s (ds.map some ++ List.replicate (N.length - k) none) (L2.start N vs) := by
  subst hk
  refine ⟨by simp [L2.start, h.len], fun i d e => ?_⟩
  unfold L2.start
  by_cases hi : i < ds.length
  · rw [List.getElem?_append_left (by simpa using hi)] at e
    rw [List.getElem?_append_left (by simpa [← h.len] using hi)]
    rw [List.getElem?_map] at e
    cases q : ds[i]? with
    | none => rw [q] at e; cases e
    | some d' =>
      rw [q] at e
      have : d' = d := by simpa using e
      subst this
      obtain ⟨v, h1, h2⟩ := h.get q
      exact ⟨v, by rw [List.getElem?_map, h1]; rfl, h2⟩
  · rw [List.getElem?_append_right (by simpa using Nat.le_of_not_lt hi)] at e
    rw [List.getElem?_replicate] at e
    split at e <;> cases e
section
variable {P : Program} {w : World} {K : PySem.W.Frag} {mg : Str → Option Value} {base : Heap}
theorem fn_ok {x qual : Str} {st : Stmt} {f : Addr} {fd : FuncData} {N ps : List Str} {k : Nat} {cl : Str → Option Addr} {ms : MS} {n p : Nat} (F : Fun K x qual st f fd) (sc : FnScope N ps (defScope st)) (hn : N.length = n := by rfl) (hp : ps.length = p := by rfl)
    (hb : ∀ (cdv : Value) (A : Around) (outer : List Env) (s : Shared) (H : Hp) (E : XK), Room k (A.deeper (PyProof.Rows.envOfC qual (defScope st) s.heap.objs.size f cdv)) → RSs (cxOf CX0 P w K mg base N qual (defScope st) f cdv A outer s H E).nox cl (defBody st) ms) :
    FnOk P w K mg base CX0 (k + 1) f fd ps (spM K cl (mfn n p ms) p) := by
  subst hn hp
  refine F.ok sc (fun vs H Q E h => h.1) (fun cdv A outer s H vs Q E hr h => ?_)
  obtain ⟨hl, S, ds, d, ah', eH, h1, ok, dv, q⟩ := h
  subst eH
  unfold mfn at h1
  split at h1
  · rename_i hd
    obtain ⟨⟨o, ah2⟩, h2, h3⟩ := Option.bind_eq_some_iff.mp h1
    refine ⟨_, pssW, hb cdv A outer s S.H E hr _ S _ o ah2 _ h2 ok (sv_start dv hl) fun s1 l1 e1 => ?_⟩
    cases o with
    | rt d1 =>
      intro v dv1
      obtain ⟨s2, l2, e2, eh, d2⟩ := trim_step (d' := d) (ah' := ah') ok l1 dv1 (by rw [e1]; exact Option.some.inj h3)
      show Q v s1.H
      rw [← eh]
      exact q s2 v l2 e2 d2
    | nx δ1 =>
      intro σ' _
      obtain ⟨s2, l2, e2, eh, d2⟩ := trim_step (d := .non) (v := .non) (d' := d) (ah' := ah') ok l1 .non (by rw [e1]; exact Option.some.inj h3)
      show Q .non s1.H
      rw [← eh]
      exact q s2 _ l2 e2 d2
    | _ => cases h3
  · cases h1
end

/-! ### calls -/
def eCall (mf : MF) (ma : MA) : ME := fun δ ah => (ma δ ah).bind fun p => mf p.1 p.2
/-- the instance's class and attributes -/
def asI (ah : AH) : D → Option (Str × List (Str × D))
  | .ins c f => some (c, f)
  | .ptr n => match ah[n]? with | some (.ins c f) => some (c, f) | _ => none
  | _ => none
def eFld (cs : List Str) (f : Str) (mo : ME) : ME := fun δ ah => (mo δ ah).bind fun p => (asI p.2 p.1).bind fun q => if q.1 ∈ cs then (q.2.lookup f).map fun d => (d, p.2) else none
def eMeth (tbl : List (Str × MF)) (m : Str) (mo : ME) (ma : MA) : ME := fun δ ah => (mo δ ah).bind fun p => (asI p.2 p.1).bind fun q => (tbl.lookup q.1).bind fun mf => match q.2.lookup m with
  | none => (ma δ p.2).bind fun r => mf (p.1 :: r.1) r.2
  | some _ => none
def eMake (c : Str) (mf : MF) (ma : MA) : ME := fun δ ah => (ma δ ah).bind fun p => (mf (.ptr p.2.length :: p.1) (p.2 ++ [.ins c []])).bind fun r => match r.1 with | .non => some (.ptr p.2.length, r.2) | _ => none
/-- .. taken as data; its own object at the heap's end is forgotten where nothing else has changed -/
def eMakeF (c : Str) (mf : MF) (ma : MA) : ME := fun δ ah => (eMake c mf ma δ ah).bind fun p => (freeze p).map fun q => trim ah q
section
variable {X : Cx} {cl : Str → Option Addr} {e o c : Expr} {es : List Expr} {ma mo : ME} {ms : MA} {x name : Str} {pos : Pos} {f : Str}
theorem re_call {mf : MF} {k : Nat} (hp : PE X c (tCall (spM X.K cl mf k) [] E0 (WA X es))) (hk : es.length = k := by rfl) (ha : RA X cl es ms) (hl : ∀ δ ah p, ms δ ah = some p → p.1.length = k) : RE X cl c (eCall mf ms) := fun δ s σ d ah' Q h ok sv q => by
  obtain ⟨p, h1, h2⟩ := Option.bind_eq_some_iff.mp h
  refine WE.of hp (ha δ s σ p.1 p.2 _ h1 ok sv fun s1 vs l1 e1 d1 => ?_)
  refine ⟨by rw [List.append_nil, ← d1.len]; exact hl _ _ _ h1, s1, p.1, d, ah', rfl, by rw [e1]; exact h2, l1.ok, by rw [List.append_nil]; exact d1, fun s2 v l2 e2 d2 => q s2 v (l1.trans l2) e2 d2⟩
theorem al_nil : ∀ δ ah p, aNil δ ah = some p → p.1.length = 0 := fun δ ah p h => by
  cases h
  rfl
theorem al_cons {k : Nat} (h : ∀ δ ah p, ms δ ah = some p → p.1.length = k) : ∀ δ ah p, aCons mo ms δ ah = some p → p.1.length = k + 1 := fun δ ah p h' => by
  obtain ⟨p, h1, h2⟩ := Option.bind_eq_some_iff.mp h'
  obtain ⟨r, h3, h4⟩ := Option.map_eq_some_iff.mp h2
  rw [← h4, List.length_cons, h _ _ _ h3]
theorem lookup_v {G : Gx} {s : S} {f : Str} : ∀ {l : List (Str × D)} {fs : List (Str × V)}, fs.map (·.1) = l.map (·.1) → DVs G s (l.map (·.2)) (fs.map (·.2)) →
    (l.lookup f = none → fs.lookup f = none) ∧ ∀ d, l.lookup f = some d → ∃ v, fs.lookup f = some v ∧ DV G s d v
  | [], [], _, _ => ⟨fun _ => rfl, fun d h => by cases h⟩
  | [], _ :: _, h, _ => by simp at h
  | _ :: _, [], h, _ => by simp at h
  | (j, d) :: l, (j', v) :: fs, h, hs => by
    simp only [List.map_cons, List.cons.injEq] at h hs
    obtain ⟨rfl, h⟩ := h
    cases hs with
    | cons h1 h2 =>
      obtain ⟨i1, i2⟩ := lookup_v (f := f) h h2
      cases e : (f == j') with
      | true => exact ⟨fun q => by simp [List.lookup_cons, e] at q, fun d' q => ⟨v, by simp [List.lookup_cons, e], by simp [List.lookup_cons, e] at q; rw [← q]; exact h1⟩⟩
      | false => exact ⟨fun q => by simp [List.lookup_cons, e] at q ⊢; simpa using i1 (by simpa using q), fun d' q => by
          simp only [List.lookup_cons, e] at q ⊢
          exact i2 d' q⟩
theorem asI_view {G : Gx} {s : S} {d : D} {v : V} {c : Str} {l : List (Str × D)} (h : asI s.ah d = some (c, l)) (ok : Ok G s) (x : DV G s d v) : ∃ a C dx fs, v = .ref a ∧ G.cl c = some C ∧ s.H a = some (.ins C dx fs) ∧ fs.map (·.1) = l.map (·.1) ∧ DVs G s (l.map (·.2)) (fs.map (·.2)) := by
  cases d with
  | ins c' f' =>
    obtain ⟨rfl, rfl⟩ := Prod.mk.inj (Option.some.inj h)
    cases x with
    | ins e hc _ hk hs => exact ⟨_, _, _, _, rfl, hc, e, hk, hs⟩
  | ptr n =>
    obtain ⟨a, e, rfl⟩ := ptr_at x
    cases q : s.ah[n]? with
    | none => rw [asI, q] at h; cases h
    | some o =>
      cases o with
      | ins c' f' =>
        rw [asI, q] at h
        obtain ⟨rfl, rfl⟩ := Prod.mk.inj (Option.some.inj h)
        obtain ⟨C, dx, fs, h1, h2, h3, h4⟩ := ok.obj n a _ e q
        exact ⟨a, C, dx, fs, rfl, h1, h2, h3, h4⟩
      | _ => rw [asI, q] at h; cases h
  | _ => cases h
/-- the classes cs have the attribute f as an instance's own -/
def FldOk (K : PySem.W.Frag) (cl : Str → Option Addr) (cs : List Str) (f : Str) : Prop := ∀ c ∈ cs, ∀ C, cl c = some C → Cls K C ∧ NoAttr K C f
theorem re_fld {cs : List Str} (hc : FldOk X.K cl cs f) (ho : RE X cl o mo) (hb : attributeBase o f X.env (eval o X.env) = eval o X.env := by rfl) : RE X cl (.Attribute o f pos) (eFld cs f mo) := fun δ s σ d ah' Q h ok sv q => by
  obtain ⟨p, h1, h2⟩ := Option.bind_eq_some_iff.mp h
  obtain ⟨⟨c, l⟩, h3, h4⟩ := Option.bind_eq_some_iff.mp h2
  split at h4
  · rename_i hm
    obtain ⟨d', h5, h6⟩ := Option.map_eq_some_iff.mp h4
    obtain ⟨rfl, rfl⟩ := Prod.mk.inj h6
    refine WE.of (pe_fld peW hb) (ho δ s σ p.1 p.2 _ h1 ok sv fun s1 v l1 e1 d1 => ?_)
    obtain ⟨a, C, dx, fs, rfl, k1, k2, k3, k4⟩ := asI_view (c := c) (l := l) (by rw [e1]; exact h3) l1.ok d1
    obtain ⟨w, k5, k6⟩ := (lookup_v k3 k4).2 _ h5
    exact ⟨a, C, dx, fs, w, rfl, k2, (hc c hm C k1).1, (hc c hm C k1).2, k5, q s1 w l1 e1 k6⟩
  · cases h4
/-- a method of a class, its mirror -/
def MethOk (X : Cx) (cl : Str → Option Addr) (k : Nat) (m c : Str) (mf : MF) (n : Nat) : Prop := ∃ C f fd ps, cl c = some C ∧ Cls X.K C ∧ Meth X.K C m f ∧ FnOk X.prog X.w X.K X.mg X.base CX0 k f fd ps (spM X.K cl mf n) ∧ Binds X.K fd ps []
theorem re_meth {tbl : List (Str × MF)} {m : Str} {k n : Nat} (hT : ∀ c mf, tbl.lookup c = some mf → MethOk X cl k m c mf (n + 1)) (hp : ∀ {C f fd ps sp}, Cls X.K C → Meth X.K C m f → FnOk X.prog X.w X.K X.mg X.base CX0 k f fd ps sp → Binds X.K fd ps [] → PE X c (tMeth C m sp [] E0 (WE X o) (WA X es)))
    (ho : RE X cl o mo) (ha : RA X cl es ms) (hl : ∀ δ ah p, ms δ ah = some p → p.1.length = n) : RE X cl c (eMeth tbl m mo ms) := fun δ s σ d ah' Q h ok sv q => by
  obtain ⟨p, h1, h2⟩ := Option.bind_eq_some_iff.mp h
  obtain ⟨⟨c', l⟩, h3, h4⟩ := Option.bind_eq_some_iff.mp h2
  obtain ⟨mf, h5, h6⟩ := Option.bind_eq_some_iff.mp h4
  simp only at h6
  split at h6
  · rename_i hn
    obtain ⟨r, h7, h8⟩ := Option.bind_eq_some_iff.mp h6
    obtain ⟨C, f, fd, ps, t1, t2, t3, t4, t5⟩ := hT c' mf h5
    refine WE.of (hp t2 t3 t4 t5) (ho δ s σ p.1 p.2 _ h1 ok sv fun s1 v l1 e1 d1 => ?_)
    obtain ⟨a, C', dx, fs, rfl, k1, k2, k3, k4⟩ := asI_view (c := c') (l := l) (by rw [e1]; exact h3) l1.ok d1
    obtain rfl : C' = C := Option.some.inj (k1.symm.trans t1)
    refine ⟨a, dx, fs, rfl, k2, (lookup_v k3 k4).1 hn, ha δ s1 σ r.1 r.2 _ (by rw [e1]; exact h7) l1.ok (sv.le l1) fun s2 vs l2 e2 d2 => ?_⟩
    refine ⟨by rw [List.append_nil, List.length_cons, ← d2.len, hl _ _ _ h7], s2, p.1 :: r.1, d, ah', rfl, by rw [e2]; exact h8, l2.ok, by rw [List.append_nil]; exact .cons (d1.le l2) d2, fun s3 v l3 e3 d3 => q s3 v (l1.trans (l2.trans l3)) e3 d3⟩
  · cases h6
theorem re_meth0 {tbl : List (Str × MF)} {m : Str} {k : Nat} (hT : ∀ c mf, tbl.lookup c = some mf → MethOk X cl k m c mf 1) (hp : ∀ {C f fd ps sp}, Cls X.K C → Meth X.K C m f → FnOk X.prog X.w X.K X.mg X.base CX0 k f fd ps sp → Binds X.K fd ps [] → PE X c (tMeth C m sp [] E0 (WE X o) tNil))
    (ho : RE X cl o mo) : RE X cl c (eMeth tbl m mo aNil) := fun δ s σ d ah' Q h ok sv q => by
  obtain ⟨p, h1, h2⟩ := Option.bind_eq_some_iff.mp h
  obtain ⟨⟨c', l⟩, h3, h4⟩ := Option.bind_eq_some_iff.mp h2
  obtain ⟨mf, h5, h6⟩ := Option.bind_eq_some_iff.mp h4
  simp only at h6
  split at h6
  · rename_i hn
    obtain ⟨r, h7, h8⟩ := Option.bind_eq_some_iff.mp h6
    cases h7
    obtain ⟨C, f, fd, ps, t1, t2, t3, t4, t5⟩ := hT c' mf h5
    refine WE.of (hp t2 t3 t4 t5) (ho δ s σ p.1 p.2 _ h1 ok sv fun s1 v l1 e1 d1 => ?_)
    obtain ⟨a, C', dx, fs, rfl, k1, k2, k3, k4⟩ := asI_view (c := c') (l := l) (by rw [e1]; exact h3) l1.ok d1
    obtain rfl : C' = C := Option.some.inj (k1.symm.trans t1)
    refine ⟨a, dx, fs, rfl, k2, (lookup_v k3 k4).1 hn, ?_⟩
    refine ⟨rfl, s1, [p.1], d, ah', rfl, by rw [e1]; exact h8, l1.ok, .cons d1 .nil, fun s3 v l3 e3 d3 => q s3 v (l1.trans l3) e3 d3⟩
  · cases h6
theorem re_make {mf : MF} {n : Nat} {C : Addr} {cn : Str} (hc : cl cn = some C) (hp : PE X c (tMake C (spM X.K cl mf (n + 1)) [] E0 (WA X es))) (ha : RA X cl es ms) (hl : ∀ δ ah p, ms δ ah = some p → p.1.length = n) : RE X cl c (eMake cn mf ms) := fun δ s σ d ah' Q h ok sv q => by
  obtain ⟨p, h1, h2⟩ := Option.bind_eq_some_iff.mp h
  obtain ⟨⟨r, ra⟩, h3, h4⟩ := Option.bind_eq_some_iff.mp h2
  cases r with
  | non =>
    obtain ⟨rfl, rfl⟩ := Prod.mk.inj (Option.some.inj h4)
    refine WE.of hp (ha δ s σ p.1 p.2 _ h1 ok sv fun s1 vs l1 e1 d1 x dx hx hdx hne => ?_)
    have l2 := le_new l1.ok hdx (.own x)
    have hx2 : (s1.up dx (.own x)).H x = none := by
      show upd s1.H dx (.own x) x = none
      rw [upd_ne hne.symm]
      exact hx
    have g3 := gr_add l2.ok hx2 (.ins cn []) (.ins C dx [])
    have l3 : Le (gx X cl) (s1.up dx (.own x)) ((s1.up dx (.own x)).add x (.ins cn []) (.ins C dx [])) := le_add l2.ok hx2 ⟨C, dx, [], hc, upd_same, rfl, .nil⟩
    have hp : DV (gx X cl) ((s1.up dx (.own x)).add x (.ins cn []) (.ins C dx [])) (.ptr p.2.length) (.ref x) := .ptr (by
      show (s1.ι ++ [x])[p.2.length]? = some x
      rw [← e1, ← l1.ok.len]
      exact List.getElem?_concat_length)
    refine ⟨by rw [List.append_nil, List.length_cons, ← d1.len, hl _ _ _ h1], (s1.up dx (.own x)).add x (.ins cn []) (.ins C dx []), .ptr p.2.length :: p.1, .non, ra, rfl, ?_, l3.ok, by rw [List.append_nil]; exact .cons hp ((d1.le l2).le l3), fun s4 v l4 e4 d4 => ?_⟩
    · show mf (.ptr p.2.length :: p.1) (s1.ah ++ [.ins cn []]) = _
      rw [e1]
      exact h3
    · cases d4
      exact ⟨rfl, q s4 _ (l1.trans (l2.trans (l3.trans l4))) e4 (hp.le l4)⟩
  | _ => cases h4
theorem re_trimF (h : RE X cl c mo) : RE X cl c (fun δ ah => (mo δ ah).bind fun p => (freeze p).map fun q => trim ah q) := fun δ s σ d ah' Q h' ok sv q => by
  obtain ⟨p, h1, h2⟩ := Option.bind_eq_some_iff.mp h'
  obtain ⟨r, h3, h4⟩ := Option.map_eq_some_iff.mp h2
  refine h δ s σ p.1 p.2 Q h1 ok sv fun s1 v l1 e1 d1 => ?_
  obtain ⟨s2, l2, e2, eH, _, d2⟩ := freeze_step (s := s1) (d := p.1) (d' := r.1) (ah' := r.2) (by rw [e1]; exact h3) l1.ok d1
  obtain ⟨s3, l3, e3, eh, d3⟩ := trim_step (d' := d) (ah' := ah') ok (l1.trans l2) d2 (by rw [e2]; exact h4)
  rw [← eH, ← eh]
  exact q s3 v l3 e3 d3
theorem re_makeF {mf : MF} {n : Nat} {C : Addr} {cn : Str} (hc : cl cn = some C) (hp : PE X c (tMake C (spM X.K cl mf (n + 1)) [] E0 (WA X es))) (ha : RA X cl es ms) (hl : ∀ δ ah p, ms δ ah = some p → p.1.length = n) : RE X cl c (eMakeF cn mf ms) := re_trimF (re_make hc hp ha hl)
/-! ### isinstance -/
def tyN (ah : AH) : D → Option String
  | .non => some "NoneType"
  | .bl _ => some "bool"
  | .int _ => some "int"
  | .str _ => some "str"
  | .tup _ => some "tuple"
  | .lst _ => some "list"
  | .dic _ => some "dict"
  | .ptr n => match ah[n]? with | some (.lst _) => some "list" | some (.dic _) => some "dict" | _ => none
  | _ => none
def isB (a T : String) : Bool := a == T || (a == "bool" && T == "int")
def eIsB (T : String) (mo : ME) : ME := fun δ ah => (mo δ ah).bind fun p => (tyN p.2 p.1).map fun a => (.bl (isB a T), p.2)
theorem kit_all : ∀ a ∈ ["NoneType", "bool", "int", "str", "tuple", "list", "dict"], ∀ T ∈ ["bool", "int", "str", "tuple", "list", "dict"], kitB a T = some (isB a T) := by decide +kernel
theorem tyN_v {G : Gx} {s : S} {d : D} {v : V} {a : String} (h : tyN s.ah d = some a) (ok : Ok G s) (x : DV G s d v) : TyX G.K s.H v (.type a) ∧ a ∈ ["NoneType", "bool", "int", "str", "tuple", "list", "dict"] := by
  cases x with
  | non => cases h; exact ⟨.base .non, by decide⟩
  | bl b => cases h; exact ⟨.base (.bl b), by decide⟩
  | int i => cases h; exact ⟨.base (.int i), by decide⟩
  | str i => cases h; exact ⟨.base (.str i), by decide⟩
  | tup e n hs =>
    cases h
    rcases e with e | ⟨o, e⟩
    · exact ⟨.base (.tup e), by decide⟩
    · exact ⟨.fTuple e, by decide⟩
  | tupK e c _ _ _ _ => cases h; exact ⟨.kTuple e c, by decide⟩
  | lst e n hs => cases h; exact ⟨.base (.lst e), by decide⟩
  | scr e n hs => cases h
  | scrK e hs => cases h
  | dic e n hk hs =>
    cases h
    rcases e with e | ⟨o, e⟩
    · exact ⟨.base (.dK e), by decide⟩
    · exact ⟨.fDict e, by decide⟩
  | dct e n hk hs => cases h
  | ins e c n hk hs => cases h
  | @ptr n b e =>
    cases q : s.ah[n]? with
    | none => rw [tyN, q] at h; cases h
    | some o =>
      cases o with
      | lst l =>
        rw [tyN, q] at h
        cases h
        obtain ⟨vs, h1, _⟩ := ok.obj n b _ e q
        exact ⟨.base (.lst h1), by decide⟩
      | dic l =>
        rw [tyN, q] at h
        cases h
        obtain ⟨vs, h1, _⟩ := ok.obj n b _ e q
        exact ⟨.base (.dK h1), by decide⟩
      | _ => rw [tyN, q] at h; cases h
/-- hp: pe_callB callr_any (by rfl) T.isinstance boot_isinstance (pa_cons peW (pa_cons (pe_bltn (by rfl) T.int boot_int rfl) pa_nil)) -/
theorem re_isB {T : String} (hp : PE X c (tCB (rCA X (.builtin "isinstance")) (tCons (WE X o) (tCons (tC (.ty T)) tNil)))) (hT : T ∈ ["bool", "int", "str", "tuple", "list", "dict"] := by decide) (ho : RE X cl o mo) : RE X cl c (eIsB T mo) := fun δ s σ d ah' Q h ok sv q => by
  obtain ⟨p, h1, h2⟩ := Option.bind_eq_some_iff.mp h
  obtain ⟨a, h3, h4⟩ := Option.map_eq_some_iff.mp h2
  obtain ⟨rfl, rfl⟩ := Prod.mk.inj h4
  refine WE.of hp (ho δ s σ p.1 p.2 _ h1 ok sv fun s1 v l1 e1 d1 => ?_)
  obtain ⟨t1, t2⟩ := tyN_v (by rw [e1]; exact h3) l1.ok d1
  exact ⟨_, call_isi, v, .ty T, .type a, .type T, isB a T, rfl, .ty T, t1, kit_ty (kit_all a t2 T hT), q s1 _ l1 e1 (.bl _)⟩
/-- an own class, asked of its instance -/
structure InsTy (K : PySem.W.Frag) (C : Addr) : Prop where
  cls : Cls K C
  ha : PySem.W.findIn K (.ref C) "__class__" = some (some (.builtin "object.__class__"))
  hn : PySem.W.specialIn K (.builtin "object.__class__") "__get__" = some (some (.builtin "getset_descriptor.__get__"))
  htk : PySem.W.takesIn K (.builtin "object.__class__") = some true
  hm : PySem.W.mroIn K C (.type "object") = some true
  kit : PySem.W.kitOne K (.ref C) (.ref C) = some true
def eIsC (cn : Str) (mo : ME) : ME := fun δ ah => (mo δ ah).bind fun p => (asI p.2 p.1).bind fun q => if q.1 = cn then some (.bl true, p.2) else none
theorem re_isC {C : Addr} {cn : Str} (hc : cl cn = some C) (I : InsTy X.K C) (hp : PE X c (tCB (rCA X (.builtin "isinstance")) (tCons (WE X o) (tCons (tC (.ref C)) tNil)))) (ho : RE X cl o mo) : RE X cl c (eIsC cn mo) := fun δ s σ d ah' Q h ok sv q => by
  obtain ⟨p, h1, h2⟩ := Option.bind_eq_some_iff.mp h
  obtain ⟨⟨c', l⟩, h3, h4⟩ := Option.bind_eq_some_iff.mp h2
  split at h4
  · rename_i e
    simp only at e
    subst e
    obtain ⟨rfl, rfl⟩ := Prod.mk.inj (Option.some.inj h4)
    refine WE.of hp (ho δ s σ p.1 p.2 _ h1 ok sv fun s1 v l1 e1 d1 => ?_)
    obtain ⟨a, C', dx, fs, rfl, k1, k2, k3, k4⟩ := asI_view (c := c') (l := l) (by rw [e1]; exact h3) l1.ok d1
    obtain rfl : C' = C := Option.some.inj (k1.symm.trans hc)
    exact ⟨_, call_isi, .ref a, .ref C', .ref C', .ref C', true, rfl, .own C', .base (.ins k2 I.cls I.ha I.hn I.htk I.hm), I.kit, q s1 _ l1 e1 (.bl _)⟩
  · cases h4
end
end MM

set_option linter.all false
set_option maxRecDepth 100000
namespace MM
open PySem PySem.Spec PyProof.Rows L2

/-- what a zip walks: a list, a tuple, a text -/
inductive Src where
  | lst (a : Addr) | tup (a : Addr) | txt (z : Str)
/-- its items -/
def SrcIs (K : PySem.W.Frag) (H : Hp) : Src → List V → Prop
  | .lst a, xs => SqL K H a xs
  | .tup a, xs => SqT K H a xs
  | .txt z, xs => xs = z.cps.toList.map fun c => V.str ⟨#[c]⟩
def Src.v : Src → V
  | .lst a => .ref a
  | .tup a => .ref a
  | .txt z => .str z
/-- its iterator at it -/
def SrcSt (it : Addr) (i : Nat) (h : Heap) : Src → Prop
  | .lst a => h.IsListIter it a i ∧ a < it
  | .tup a => h.IsTupleIter it a i ∧ a < it
  | .txt z => ∃ t, h.IsStrIter it (strIterType z) z t i
/-- what the library's zip asks of an iterator, of a heap at hand -/
structure DrawAt (prog : Program) (w : World) (A : Around) (it : Addr) (xs : List V) (src : Src) (i : Nat) (h : Heap) where
  fp : List Addr
  P : Nat → Value → Prop
  St : Nat → Heap → Prop
  D : Draws prog w A it fp xs.length P St
  st : St i h
  mem : it ∈ fp
  fps : ∀ b ∈ fp, b = it ∨ src.v = .ref b
  val : ∀ j v, P j v → ∃ x, xs[j]? = some x ∧ RelV x v
  back : ∀ j h', St j h' → SrcSt it j h' src
theorem draw_at {X : Cx} {pins : List (Addr × Obj)} {σ : L2.St} {H : Hp} {s : Shared} {it : Addr} {xs : List V} {src : Src} {i : Nat} {A : Around} (I : Inv X pins σ H s) (hh : A.handled = none) (hs : SrcIs X.K H src xs) (st : SrcSt it i s.heap src) : Nonempty (DrawAt X.prog X.w A it xs src i s.heap) := by
  cases src with
  | lst a =>
    obtain ⟨h1, hlt⟩ := st
    obtain ⟨its, r, pl, hz⟩ := I.list hs
    have hl : its.toArray.size = xs.length := by rw [List.size_toArray]; exact r.length.symm
    exact ⟨⟨[it, a], _, _, hl ▸ Draws.list hh it a (Nat.ne_of_lt hlt) its.toArray, ⟨h1, pl.isList⟩, by simp, fun b hb => (List.mem_cons.mp hb).imp id fun q => by rw [List.mem_singleton.mp q]; rfl, fun j v e => by
      obtain ⟨x, h2, h3⟩ := (show ∃ x, xs[j]? = some x ∧ RelV x v from by
        have e2 : its[j]? = some v := by simpa using e
        have hj := (List.getElem?_eq_some_iff.mp e2).1
        have hj' : j < xs.length := by rw [r.length]; exact hj
        obtain ⟨u, hu, ru⟩ := r.get (List.getElem?_eq_getElem hj')
        exact ⟨_, List.getElem?_eq_getElem hj', by rw [hu] at e2; cases e2; exact ru⟩)
      exact ⟨x, h2, h3⟩, fun j h' q => ⟨q.1, hlt⟩⟩⟩
  | tup a =>
    obtain ⟨h1, hlt⟩ := st
    obtain ⟨its, r, pl, hz⟩ := I.tuple hs
    have hl : its.toArray.size = xs.length := by rw [List.size_toArray]; exact r.length.symm
    exact ⟨⟨[it, a], _, _, hl ▸ Draws.tuple hh it a (Nat.ne_of_lt hlt) its.toArray, ⟨h1, pl⟩, by simp, fun b hb => (List.mem_cons.mp hb).imp id fun q => by rw [List.mem_singleton.mp q]; rfl, fun j v e => by
      have e2 : its[j]? = some v := by simpa using e
      have hj := (List.getElem?_eq_some_iff.mp e2).1
      have hj' : j < xs.length := by rw [r.length]; exact hj
      obtain ⟨u, hu, ru⟩ := r.get (List.getElem?_eq_getElem hj')
      exact ⟨_, List.getElem?_eq_getElem hj', by rw [hu] at e2; cases e2; exact ru⟩, fun j h' q => ⟨q.1, hlt⟩⟩⟩
  | txt z =>
    obtain ⟨t, h1⟩ := st
    have hs' : xs = z.cps.toList.map fun c => V.str ⟨#[c]⟩ := hs
    have hl : z.cps.size = xs.length := by rw [hs']; simp
    exact ⟨⟨[it], _, _, hl ▸ Draws.text hh it z t, h1, by simp, fun b hb => .inl (List.mem_singleton.mp hb), fun j v e => by
      obtain ⟨c, u, hc, rfl⟩ := e
      refine ⟨.str ⟨#[c]⟩, ?_, ⟨u, rfl⟩⟩
      rw [hs', List.getElem?_map]
      have : z.cps.toList[j]? = some c := by simpa using hc
      rw [this]
      rfl, fun j h' q => ⟨t, q⟩⟩⟩
def ItZ (K : PySem.W.Frag) (p q : Src) : It :=
  ⟨fun i H => ∃ xs ys x y, SrcIs K H p xs ∧ SrcIs K H q ys ∧ xs[i]? = some x ∧ ys[i]? = some y,
    fun i H v H' => ∃ T x y, v = .ref T ∧ H T = none ∧ H' = upd H T (.tup [x, y]) ∧ (∀ xs, SrcIs K H p xs → xs[i]? = some x) ∧ ∀ ys, SrcIs K H q ys → ys[i]? = some y,
    fun i H => ∃ xs ys, SrcIs K H p xs ∧ SrcIs K H q ys ∧ i = min xs.length ys.length⟩
structure Apart (N : Nat) (p q : Src) : Prop where
  p : ∀ b, p.v = .ref b → b < N
  q : ∀ b, q.v = .ref b → b < N
theorem Apart.sep {prog : Program} {w : World} {A : Around} {N i : Nat} {p q : Src} (a : Apart N p q) {xs ys : List V} {h : Heap} (d1 : DrawAt prog w A N xs p i h) (d2 : DrawAt prog w A (N + 1) ys q i h) : ZipSep2 (N + 4) (N + 2) (N + 3) N (N + 1) d1.fp d2.fp := by
  have f1 : ∀ b ∈ d1.fp, b = N ∨ b < N := fun b hb => (d1.fps b hb).imp id fun e => a.p b e
  have f2 : ∀ b ∈ d2.fp, b = N + 1 ∨ b < N := fun b hb => (d2.fps b hb).imp id fun e => a.q b e
  have n1 : ∀ k, 0 < k → N + k ∉ d1.fp := fun k hk hb => by
    rcases f1 _ hb with e | e
    · exact absurd (show (N + k : Nat) = N from e) (by omega)
    · exact absurd (show (N + k : Nat) < N from e) (by omega)
  have n2 : ∀ k, k ≠ 1 → N + k ∉ d2.fp := fun k hk hb => by
    rcases f2 _ hb with e | e
    · exact absurd (show (N + k : Nat) = N + 1 from e) (by omega)
    · exact absurd (show (N + k : Nat) < N from e) (by omega)
  exact { TIz := show (N + 2 : Nat) ≠ N + 4 by omega, TOz := show (N + 3 : Nat) ≠ N + 4 by omega, TITO := show (N + 2 : Nat) ≠ N + 3 by omega, TIi1 := show (N + 2 : Nat) ≠ N by omega, mem1 := d1.mem, zf1 := n1 4 (by omega), Tf1 := n1 3 (by omega)
          TIi2 := show (N + 2 : Nat) ≠ N + 1 by omega, mem2 := d2.mem, zf2 := n2 4 (by omega), Tf2 := n2 3 (by omega), sep1_2 := n2 0 (by omega), sep2_1 := n1 1 (by omega) }
def ZSt (N : Nat) (p q : Src) (i : Nat) (h : Heap) : Prop := IsZip h (N + 4) (N + 2) (N + 3) .none ∧ IsTupOf2 h (N + 2) (.ref N) (.ref (N + 1)) ∧ (∃ a1 a2, IsTupOf2 h (N + 3) a1 a2) ∧ SrcSt N i h p ∧ SrcSt (N + 1) i h q
theorem SrcSt.obj {it : Addr} {i : Nat} {h : Heap} : ∀ {src : Src}, SrcSt it i h src → ∃ o, h.get? it = some o ∧ ∀ v, o.data ≠ .cell v
  | .lst _, ⟨⟨o, e, _, d⟩, _⟩ => ⟨o, e, fun v q => by rw [d] at q; cases q⟩
  | .tup _, ⟨⟨o, e, _, d⟩, _⟩ => ⟨o, e, fun v q => by rw [d] at q; cases q⟩
  | .txt _, ⟨_, o, e, _, d⟩ => ⟨o, e, fun v q => by rw [d] at q; cases q⟩
theorem SrcSt.keep {it : Addr} {i : Nat} {h h' : Heap} (k : ∀ o, h.get? it = some o → h'.get? it = some o) : ∀ {src : Src}, SrcSt it i h src → SrcSt it i h' src
  | .lst _, ⟨⟨o, e, r⟩, l⟩ => ⟨⟨o, k o e, r⟩, l⟩
  | .tup _, ⟨⟨o, e, r⟩, l⟩ => ⟨⟨o, k o e, r⟩, l⟩
  | .txt _, ⟨t, o, e, r⟩ => ⟨t, o, k o e, r⟩
theorem SrcIs.inj {X : Cx} {pins : List (Addr × Obj)} {σ : L2.St} {H : Hp} {s : Shared} (I : Inv X pins σ H s) : ∀ {src : Src} {xs ys : List V}, SrcIs X.K H src xs → SrcIs X.K H src ys → xs = ys
  | .lst _, _, _, h, h' => I.list_inj h h'
  | .tup _, _, _, h, h' => I.tuple_inj h h'
  | .txt _, _, _, h, h' => Eq.trans h (Eq.symm h')
theorem Src.lt {X : Cx} {pins : List (Addr × Obj)} {σ : L2.St} {H : Hp} {s : Shared} (I : Inv X pins σ H s) : ∀ {src : Src} {xs : List V}, SrcIs X.K H src xs → ∀ b, src.v = .ref b → b < s.heap.objs.size
  | .lst _, _, h, b, e => by
    cases e
    obtain ⟨_, _, p, _⟩ := I.list h
    exact p.lt
  | .tup _, _, h, b, e => by
    cases e
    obtain ⟨_, _, p, _⟩ := I.tuple h
    exact p.lt
  | .txt _, _, h, b, e => by cases e
theorem turn_zipG {P : Program} {w : World} {K : PySem.W.Frag} {elts : List Expr} {kk : Nat} {tpos : Pos} {p q : Src} {N : Nat} (ap : Apart N p q) :
    Turn P w K (.Tuple elts kk tpos) (ItZ K p q) [N + 4, N + 2, N + 3, N, N + 1] (N + 4) (ZSt N p q) where
  mem := by simp
  obj := fun i h st c hc => by
    obtain ⟨hz, hTI, ⟨x, y, hTO⟩, h1, h2⟩ := st
    simp only [List.mem_cons, List.not_mem_nil, or_false] at hc
    rcases hc with rfl | rfl | rfl | rfl | rfl
    · exact ⟨_, hz, fun v q => nomatch q⟩
    · exact ⟨_, hTI, fun v q => nomatch q⟩
    · exact ⟨_, hTO, fun v q => nomatch q⟩
    · exact h1.obj
    · exact h2.obj
  keep := fun i h h' st k => by
    obtain ⟨hz, hTI, ⟨x, y, hTO⟩, h1, h2⟩ := st
    exact ⟨k _ (by simp) _ hz, k _ (by simp) _ hTI, ⟨x, y, k _ (by simp) _ hTO⟩, h1.keep fun o e => k _ (by simp) o e, h2.keep fun o e => k _ (by simp) o e⟩
  item := by
    intro X hP hw hK hc i pins s σ H E I hf st hg
    subst hP hw hK
    obtain ⟨hz, hTI, ⟨x0, y0, hTO⟩, h1, h2⟩ := st
    obtain ⟨xs, ys, x, y, hqx, hqy, hx, hy⟩ := hg
    have hh : X.A.in1.handled = none := I.ok.hd hc
    obtain ⟨d1⟩ := draw_at (A := X.A.in1) I hh hqx h1
    obtain ⟨d2⟩ := draw_at (A := X.A.in1) I hh hqy h2
    have S := ap.sep d1 d2
    have hzl : N + 4 < s.heap.objs.size := Heap.lt_size hz
    refine wpAny_pyNext_zipD2_item S d1.D d2.D hz hTI hTO d1.st d2.st (List.getElem?_eq_some_iff.mp hx).1 (List.getElem?_eq_some_iff.mp hy).1 fun u u2 h' tk p1 p2 z' TO' h1' h2' hT hsz hk => ?_
    obtain ⟨x', ex, ru⟩ := d1.val _ _ p1
    obtain ⟨y', ey, ru2⟩ := d2.val _ _ p2
    obtain rfl : x' = x := Option.some.inj (ex.symm.trans hx)
    obtain rfl : y' = y := Option.some.inj (ey.symm.trans hy)
    refine ⟨_, rfl, wpAny_letOwnedTupleGo_zip (s := { s with heap := h', toks := tk }) z' fun h'' z'' sb => ?_⟩
    have hT2 : h''.get? s.heap.objs.size = some { cls := .type "tuple", data := .seq #[u, u2] } := (sb.2 _ (Nat.ne_of_gt hzl)).trans hT
    have new : ObjOk X.prog X.w (upd H s.heap.objs.size (.tup [x', y'])) h'' s.heap.objs.size (.tup [x', y']) :=
      ⟨by show 2 ≤ sizeLine; decide, [u, u2], .cons ru (.cons ru2 .nil), ⟨_, hT2, rfl, _, rfl⟩⟩
    have I1 : Inv X pins σ (upd H s.heap.objs.size (.tup [x', y'])) { s with heap := h'', toks := tk } :=
      I.turnedNew (t' := tk) (ch := [N + 4, N + 2, N + 3, N, N + 1]) (fun c o hb q => (sb.2 c (fun q' => hb (by simp [q']))).trans (hk c o (fun q' => hb (by simp [q'])) (fun q' => hb (by simp [q'])) (fun q' => hb (by simp [q'])) (fun q' => hb (by simp [q'])) q)) hf (Nat.le_refl _) new
    refine ⟨.ref s.heap.objs.size, _, I1, rfl, ⟨_, x', y', rfl, I.hok.fresh (Nat.le_refl _), rfl, fun l hl => by rw [SrcIs.inj I hl hqx]; exact hx, fun l hl => by rw [SrcIs.inj I hl hqy]; exact hy⟩, ⟨z'', ?_, ⟨u, u2, ?_⟩, ?_, ?_⟩, fun c hcm => ?_⟩
    · exact (sb.2 _ S.TIz).trans (hk _ _ S.TIz S.TITO S.TIi1 S.TIi2 hTI)
    · exact (sb.2 _ S.TOz).trans TO'
    · exact (d1.back _ _ h1').keep fun o e => (sb.2 _ S.zi1.symm).trans e
    · exact (d2.back _ _ h2').keep fun o e => (sb.2 _ S.zi2.symm).trans e
    · have hlt : c < s.heap.objs.size := by
        have hcm' := hcm
        simp only [List.mem_cons, List.not_mem_nil, or_false] at hcm'
        rcases hcm' with rfl | rfl | rfl | rfl | rfl
        · exact hzl
        · exact Heap.lt_size hTI
        · exact Heap.lt_size hTO
        · obtain ⟨o, e1, _⟩ := h1.obj; exact Heap.lt_size e1
        · obtain ⟨o, e1, _⟩ := h2.obj; exact Heap.lt_size e1
      rw [upd_ne (Nat.ne_of_lt hlt)]
      exact (hf c hcm).1
  done := by
    intro X hP hw hK hc i pins s σ H E I hf st hg
    subst hP hw hK
    obtain ⟨hz, hTI, ⟨x0, y0, hTO⟩, h1, h2⟩ := st
    obtain ⟨xs, ys, hqx, hqy, hend⟩ := hg
    have hh : X.A.in1.handled = none := I.ok.hd hc
    obtain ⟨d1⟩ := draw_at (A := X.A.in1) I hh hqx h1
    obtain ⟨d2⟩ := draw_at (A := X.A.in1) I hh hqy h2
    have S := ap.sep d1 d2
    exact wpAny_pyNext_zipD2_end S d1.D d2.D hz hTI hTO d1.st d2.st (by omega) (by omega) (by omega) fun h' tk hk => ⟨rfl, I.turnedL (t' := tk) (ch := [N + 4, N + 2, N + 3, N, N + 1]) (fun c o hb q =>
      hk c o (fun q' => hb (by simp [q'])) (fun q' => hb (by simp [q'])) (fun q' => hb (by simp [q'])) (fun q' => hb (by simp [q'])) q) hf⟩
  self := fun A i s Q E st h => wpAny_pyIter_zip st.1 h
/-- zip(a, b), made and walked -/
def iZipG (K : PySem.W.Frag) (ta : TA) : TI := fun σ H R => ta σ H fun vs H1 => ∃ p q xs ys, vs = [Src.v p, Src.v q] ∧ SrcIs K H1 p xs ∧ SrcIs K H1 q ys ∧ R (ItZ K p q) H1
theorem src_begins {X : Cx} {pins : List (Addr × Obj)} {σ : L2.St} {H : Hp} {s : Shared} {src : Src} {xs : List V} {u : Value} (I : Inv X pins σ H s) (hs : SrcIs X.K H src xs) (r : RelV src.v u) :
    ∃ o H1, Begins u o H1 ∧ H1 s.heap ∧ ∀ it h', (∀ b, src.v = .ref b → b < it) → h'.get? it = some o → SrcSt it 0 h' src := by
  cases src with
  | lst a =>
    cases r
    obtain ⟨its, _, pl, _⟩ := I.list hs
    exact ⟨_, _, begins_list a its.toArray, pl.isList, fun it h' hb e => ⟨⟨_, e, rfl, rfl⟩, hb a rfl⟩⟩
  | tup a =>
    cases r
    obtain ⟨its, _, pl, _⟩ := I.tuple hs
    exact ⟨_, _, begins_tuple a its.toArray, pl, fun it h' hb e => ⟨⟨_, e, rfl, rfl⟩, hb a rfl⟩⟩
  | txt z =>
    obtain ⟨t, rfl⟩ := r
    exact ⟨_, _, begins_text z t, trivial, fun it h' hb e => ⟨t, _, e, rfl, rfl⟩⟩
theorem pi_zipG {X : Cx} {e e2 : Expr} {ta : TA} {p pos tpos : Pos} {elts : List Expr} {kk : Nat} (hg : Gl X "zip") (hm : X.mg "zip" = none) (ha : PA X [e, e2] ta)
    (hs : starEach [e, e2] X.env = (false, eval e X.env) :: starEach [e2] X.env := by rfl) (hpl : (backTo pos (starEach [e2] X.env)).any (·.1) = false := by rfl) :
    PI X (.Tuple elts kk tpos) (.Call (.Name "zip" p) [e, e2] [] pos) (iZipG X.K ta) := by
  refine ⟨fun pins s σ H R I h => ?_⟩
  refine Call_ (ld_blt I hg hm PyProof.Rows.boot_zip (PyProof.Rows.callWith_type1 (thn (ha.run pos pins s σ H _ I h) fun us s1 ⟨vs, H1, I1, r1, q1⟩ => ?_) hs hpl))
  obtain ⟨a, b, xs, ys, ex, hqx, hqy, q⟩ := q1
  subst ex
  cases r1 with
  | cons r rr =>
    cases rr with
    | cons r' rr =>
      cases rr
      obtain ⟨o1, H1', B1, k1, g1⟩ := src_begins I1 hqx r
      obtain ⟨o2, H2', B2, k2, g2⟩ := src_begins I1 hqy r'
      have ap : Apart s1.heap.objs.size a b := ⟨Src.lt I1 hqx, Src.lt I1 hqy⟩
      refine zip_begins2 B1 B2 k1 k2 fun h' hz hTI hTO e1 e2 hsz hk => wpAny_pyIter_zip hz ?_
      have I2 : Inv X pins σ H1 { s1 with heap := h' } := I1.kept (t' := s1.toks) hk
      refine ⟨s1.heap.objs.size + 4, _, _, _, H1, rfl, I2, turn_zipG ap, ⟨hz, hTI, ⟨_, _, hTO⟩, g1 _ _ ap.p e1, g2 _ _ (fun b hb => Nat.lt_succ_of_lt (ap.q b hb)) e2⟩, fun c hcm => ?_, q⟩
      have hle : s1.heap.objs.size ≤ c := by
        simp only [List.mem_cons, List.not_mem_nil, or_false] at hcm
        rcases hcm with z | z | z | z | z
        · rw [z]; exact Nat.le_add_right _ _
        · rw [z]; exact Nat.le_add_right _ _
        · rw [z]; exact Nat.le_add_right _ _
        · rw [z]; exact Nat.le_refl _
        · rw [z]; exact Nat.le_add_right _ _
      exact I1.fpOk hle (I1.hok.fresh hle)
end MM

set_option linter.all false
set_option maxRecDepth 100000
namespace MM
open PySem L2

/-! ### targets -/
def RG (X : Cx) (cl : Str → Option Addr) (tg : Expr) (T : List Nat) (g : D → DL → Option DL) : Prop := ∀ (d : D) (v : V) (δ δ' : DL) (s : S) (σ : St) (Q : St → Hp → Prop), g d δ = some δ' → Ok (gx X cl) s → DV (gx X cl) s d v → SV (gx X cl) s δ σ →
  (∀ σ', SV (gx X cl) s δ' σ' → σ'.length = σ.length → (∀ i, i ∉ T → σ'[i]? = σ[i]?) → Q σ' s.H) → ∃ t, PG X tg t ∧ t v σ s.H Q
def RGs (X : Cx) (cl : Str → Option Addr) (tgs : List Expr) (T : List Nat) (g : List D → DL → Option DL) : Prop := ∀ (ds : List D) (vs : List V) (δ δ' : DL) (s : S) (σ : St) (Q : St → Hp → Prop), g ds δ = some δ' → Ok (gx X cl) s → DVs (gx X cl) s ds vs → SV (gx X cl) s δ σ →
  (∀ σ', SV (gx X cl) s δ' σ' → σ'.length = σ.length → (∀ i, i ∉ T → σ'[i]? = σ[i]?) → Q σ' s.H) → ∃ t, PGs X tgs t ∧ t vs σ s.H Q
theorem pg_any {X : Cx} {tg : Expr} : PG X tg (fun v σ H Q => ∃ t, PG X tg t ∧ t v σ H Q) := ⟨fun pins s σ H v u Q I r ⟨t, h, q⟩ => h.run pins s σ H v u Q I r q⟩
theorem pgs_any {X : Cx} {tg : List Expr} : PGs X tg (fun v σ H Q => ∃ t, PGs X tg t ∧ t v σ H Q) := ⟨fun pins s σ H v u Q I r ⟨t, h, q⟩ => h.run pins s σ H v u Q I r q⟩
def tgN (i : Nat) : D → DL → Option DL := fun d δ => some (δ.set i (some d))
def tgNil : List D → DL → Option DL := fun ds δ => match ds with | [] => some δ | _ => none
def tgCons (g : D → DL → Option DL) (r : List D → DL → Option DL) : List D → DL → Option DL := fun ds δ => match ds with | d :: t => (g d δ).bind fun δ1 => r t δ1 | _ => none
def tgT (g : List D → DL → Option DL) : D → DL → Option DL := fun d δ => match d with | .tup l => g l δ | _ => none
section
variable {X : Cx} {cl : Str → Option Addr} {a b e o c tg iter : Expr} {rest es tgs : List Expr} {p pos apos cpos : Pos} {ma mb mc mo : ME} {ta tb : MT} {ms : MA} {x name : Str} {id T : String} {f : Value} {Ts Us : List Nat}
theorem rg_name (i : Nat) {x : Str} (hN : X.N.Nodup) (hi : X.N[i]? = some x := by rfl) (hx : Loc X.env.scope x := by first | exact .inl rfl | exact .inr rfl) (hf : X.fn x = true ∨ X.env.scope.names.lookup x = some .local := by first | exact .inl rfl | exact .inr rfl) : RG X cl (.Name x pos) [i] (tgN i) := fun d v δ δ' s σ Q h ok dv sv q => by
  cases h
  refine ⟨_, pg_name hN hi hx hf, q _ (sv.set dv i) (by simp) fun j hj => ?_⟩
  rw [List.getElem?_set_ne]
  exact fun e => hj (by simp [e])
theorem rgs_nil : RGs X cl [] [] tgNil := fun ds vs δ δ' s σ Q h ok dv sv q => by
  cases dv with
  | nil =>
    cases h
    exact ⟨_, pgs_nil, rfl, q σ sv rfl fun _ _ => rfl⟩
  | cons _ _ => cases h
theorem rgs_cons {g : D → DL → Option DL} {r : List D → DL → Option DL} (h1 : RG X cl tg Ts g) (h2 : RGs X cl tgs Us r) (hs : (assignEach (tg :: tgs) X.env).map (·.2) = assign tg X.env :: (assignEach tgs X.env).map (·.2) := by rfl) : RGs X cl (tg :: tgs) (Ts ++ Us) (tgCons g r) := fun ds vs δ δ' s σ Q h ok dv sv q => by
  cases dv with
  | nil => cases h
  | cons d1 d2 =>
    obtain ⟨δ1, h3, h4⟩ := Option.bind_eq_some_iff.mp h
    refine ⟨_, pgs_cons pg_any pgs_any hs, _, _, rfl, h1 _ _ δ δ1 s σ _ h3 ok d1 sv fun σ1 sv1 hl1 hk1 => h2 _ _ δ1 δ' s σ1 _ h4 ok d2 sv1 fun σ2 sv2 hl2 hk2 => ?_⟩
    refine q σ2 sv2 (hl2.trans hl1) fun i hi => ?_
    rw [hk2 i fun z => hi (List.mem_append_right _ z), hk1 i fun z => hi (List.mem_append_left _ z)]
theorem rg_tup {g : List D → DL → Option DL} {k : Nat} (h : RGs X cl tgs Ts g) (hg : ∀ l δ δ', g l δ = some δ' → l.length = (assignEach tgs X.env).length) (hc : X.calm = true := by rfl) (hst : (assignEach tgs X.env).findIdx? (·.1) = none := by rfl) : RG X cl (.Tuple tgs k pos) Ts (tgT g) := fun d v δ δ' s σ Q h' ok dv sv q => by
  cases d with
  | tup l =>
    obtain ⟨a, vs, rfl, hr, hs⟩ := tup_view dv
    exact ⟨_, pg_tup hc pgs_any rfl hst, a, vs, rfl, hr, by rw [← hs.len]; exact hg _ _ _ h', h l vs δ δ' s σ Q h' ok hs sv q⟩
  | _ => cases h'
theorem gl_nil : ∀ l δ δ', tgNil l δ = some δ' → l.length = 0 := fun l δ δ' h => by
  cases l with
  | nil => rfl
  | cons _ _ => cases h
theorem gl_cons {g : D → DL → Option DL} {r : List D → DL → Option DL} {n : Nat} (h : ∀ l δ δ', r l δ = some δ' → l.length = n) : ∀ l δ δ', tgCons g r l δ = some δ' → l.length = n + 1 := fun l δ δ' h' => by
  cases l with
  | nil => cases h'
  | cons d t =>
    obtain ⟨δ1, h3, h4⟩ := Option.bind_eq_some_iff.mp h'
    rw [List.length_cons, h _ _ _ h4]

/-! ### what is walked -/
def Drive (G : Gx) (s : S) (ds : List D) (J : It) : Prop := ∀ s2, Gr s s2 → Ok G s2 → (∀ i, i < ds.length → J.go i s2.H) ∧ J.stop ds.length s2.H ∧ ∀ i d x H', ds[i]? = some d → J.yld i s2.H x H' → Le G s2 { s2 with H := H' } ∧ DV G { s2 with H := H' } d x
def RI (X : Cx) (cl : Str → Option Addr) (tg iter : Expr) (m : MA) : Prop := ∀ (δ : DL) (s : S) (σ : St) (ds : List D) (ah' : AH) (R : It → Hp → Prop), m δ s.ah = some (ds, ah') → Ok (gx X cl) s → SV (gx X cl) s δ σ →
  (∀ s' J, Le (gx X cl) s s' → s'.ah = ah' → Drive (gx X cl) s' ds J → R J s'.H) → ∃ wi, PI X tg iter wi ∧ wi σ s.H R
theorem pi_any {X : Cx} {tg iter : Expr} : PI X tg iter (fun σ H R => ∃ wi, PI X tg iter wi ∧ wi σ H R) := ⟨fun pins s σ H R I ⟨wi, h, q⟩ => h.run pins s σ H R I q⟩
def signs (z : Str) : List D := z.cps.toList.map fun c => .str ⟨#[c]⟩
def gIter : D → Option (List D)
  | .lst l => some l
  | .scr l => some l
  | .tup l => some l
  | .str z => some (signs z)
  | _ => none
theorem lst_src {G : Gx} {s : S} {v : V} {l : List D} (x : DV G s (.lst l) v ∨ DV G s (.scr l) v) : ∃ a vs, v = .ref a ∧ DVs G s l vs ∧ ∀ s2, Gr s s2 → SqL G.K s2.H a vs := by
  rcases x with x | x
  · cases x with
    | lst e n hs => exact ⟨_, _, rfl, hs, fun s2 g => .inl (.inl ((g.keep _ _ e n).of fun _ q => nomatch q))⟩
  · cases x with
    | scr e n hs => exact ⟨_, _, rfl, hs, fun s2 g => .inl (g.rd e n).1⟩
    | scrK e hs => exact ⟨_, _, rfl, hs, fun s2 g => .inr e⟩
theorem tup_src {G : Gx} {s : S} {v : V} {l : List D} (x : DV G s (.tup l) v) : ∃ a vs, v = .ref a ∧ DVs G s l vs ∧ ∀ s2, Gr s s2 → SqT G.K s2.H a vs := by
  cases x with
  | tup e n hs => exact ⟨_, _, rfl, hs, fun s2 g => .inl (g.rd e n).1⟩
  | tupK a b c d e hs => exact ⟨_, _, rfl, hs, fun s2 g => .inr ⟨_, _, _, a, b, c, d, e⟩⟩
theorem signs_dv {G : Gx} {s : S} : ∀ l : List Nat, DVs G s (l.map fun c => .str ⟨#[c]⟩) (l.map fun c => V.str ⟨#[c]⟩)
  | [] => .nil
  | _ :: r => .cons (.str _) (signs_dv r)
/-- a source that stands -/
theorem src_of {G : Gx} {s : S} {d : D} {v : V} {l : List D} (h : gIter d = some l) (x : DV G s d v) : ∃ (src : Src) (vs : List V), v = src.v ∧ DVs G s l vs ∧ ∀ s2, Gr s s2 → SrcIs G.K s2.H src vs := by
  cases d with
  | lst m =>
    cases h
    obtain ⟨a, vs, e, hs, hq⟩ := lst_src (.inl x)
    exact ⟨.lst a, vs, e, hs, hq⟩
  | scr m =>
    cases h
    obtain ⟨a, vs, e, hs, hq⟩ := lst_src (.inr x)
    exact ⟨.lst a, vs, e, hs, hq⟩
  | tup m =>
    cases h
    obtain ⟨a, vs, e, hs, hq⟩ := tup_src x
    exact ⟨.tup a, vs, e, hs, hq⟩
  | str z =>
    cases h
    cases x
    exact ⟨.txt z, _, rfl, signs_dv _, fun s2 g => rfl⟩
  | _ => cases h
def iSeq (m : ME) : MA := fun δ ah => (m δ ah).bind fun p => (gIter p.1).map fun l => (l, p.2)
theorem same_yield {G : Gx} {s s2 : S} {d : D} {x : V} {H' : Hp} (g : Gr s s2) (ok : Ok G s2) (e : H' = s2.H) (dv : DV G s d x) : Le G s2 { s2 with H := H' } ∧ DV G { s2 with H := H' } d x := by
  subst e
  exact ⟨Le.refl ok, dv.mono g⟩
theorem DVs.at {G : Gx} {s : S} {l : List D} {vs : List V} {i : Nat} {d : D} {x : V} (h : DVs G s l vs) (e : l[i]? = some d) (e' : vs[i]? = some x) : DV G s d x := by
  obtain ⟨v, h1, h2⟩ := h.get e
  obtain rfl : v = x := Option.some.inj (h1.symm.trans e')
  exact h2
theorem DVs.some_at {G : Gx} {s : S} {l : List D} {vs : List V} {i : Nat} (h : DVs G s l vs) (hi : i < l.length) : ∃ x, vs[i]? = some x := by
  rw [h.len] at hi
  exact ⟨_, List.getElem?_eq_getElem hi⟩
theorem drive_lst {G : Gx} {s : S} {l : List D} {a : Addr} {vs : List V} (hs : DVs G s l vs) (hq : ∀ s2, Gr s s2 → SqL G.K s2.H a vs) : Drive G s l (Itl G.K a) := fun s2 g ok => by
  refine ⟨fun i hi => ?_, ⟨vs, hq s2 g, by rw [hs.len]; exact Nat.le_refl _⟩, fun i d x H' hd hy => ?_⟩
  · obtain ⟨x, hx⟩ := hs.some_at hi
    exact ⟨vs, x, hq s2 g, hx⟩
  · exact same_yield g ok hy.1 (hs.at hd (hy.2 vs (hq s2 g)))
theorem drive_tup {G : Gx} {s : S} {l : List D} {a : Addr} {vs : List V} (hs : DVs G s l vs) (hq : ∀ s2, Gr s s2 → SqT G.K s2.H a vs) : Drive G s l (Itt G.K a) := fun s2 g ok => by
  refine ⟨fun i hi => ?_, ⟨vs, hq s2 g, by rw [hs.len]; exact Nat.le_refl _⟩, fun i d x H' hd hy => ?_⟩
  · obtain ⟨x, hx⟩ := hs.some_at hi
    exact ⟨vs, x, hq s2 g, hx⟩
  · exact same_yield g ok hy.1 (hs.at hd (hy.2 vs (hq s2 g)))
theorem ri_seq (h : RE X cl iter ma) : RI X cl tg iter (iSeq ma) := fun δ s σ ds ah' R h' ok sv q => by
  obtain ⟨⟨z, za⟩, h1, h2⟩ := Option.bind_eq_some_iff.mp h'
  obtain ⟨l, h3, h4⟩ := Option.map_eq_some_iff.mp h2
  obtain ⟨rfl, rfl⟩ := Prod.mk.inj h4
  cases z with
  | lst m =>
    cases h3
    refine ⟨_, pi_list peW, h δ s σ _ _ _ h1 ok sv fun s1 v l1 e1 d1 => ?_⟩
    obtain ⟨a, vs, e, hs, hq⟩ := lst_src (.inl d1)
    exact ⟨a, e, ⟨vs, hq s1 Gr.refl⟩, q s1 _ l1 e1 (drive_lst hs hq)⟩
  | scr m =>
    cases h3
    refine ⟨_, pi_list peW, h δ s σ _ _ _ h1 ok sv fun s1 v l1 e1 d1 => ?_⟩
    obtain ⟨a, vs, e, hs, hq⟩ := lst_src (.inr d1)
    exact ⟨a, e, ⟨vs, hq s1 Gr.refl⟩, q s1 _ l1 e1 (drive_lst hs hq)⟩
  | tup m =>
    cases h3
    refine ⟨_, pi_tup peW, h δ s σ _ _ _ h1 ok sv fun s1 v l1 e1 d1 => ?_⟩
    obtain ⟨a, vs, e, hs, hq⟩ := tup_src d1
    exact ⟨a, e, ⟨vs, hq s1 Gr.refl⟩, q s1 _ l1 e1 (drive_tup hs hq)⟩
  | str m =>
    cases h3
    refine ⟨_, pi_str peW, h δ s σ _ _ _ h1 ok sv fun s1 v l1 e1 d1 => ?_⟩
    cases d1
    refine ⟨m, rfl, q s1 _ l1 e1 fun s2 g ok2 => ⟨fun i hi => ?_, ?_, fun i d x H' hd hy => ?_⟩⟩
    · have hi : i < (signs m).length := hi
      simpa [signs, Its] using hi
    · show m.cps.size ≤ (signs m).length
      simp [signs]
    · obtain ⟨eH, c, hc, rfl⟩ := hy
      have hd : (signs m)[i]? = some d := hd
      have hc' : m.cps.toList[i]? = some c := by simpa using hc
      rw [signs, List.getElem?_map, hc'] at hd
      cases hd
      exact same_yield g ok2 eH (.str _)
  | _ => cases h3
/-! range -/
def gRange (lo hi : Int) : Option (List D) := if -1000000 ≤ lo ∧ lo ≤ 1000000 ∧ -1000000 ≤ hi ∧ hi ≤ lo + 10000 then some ((List.range (hi - lo).toNat).map fun i => .int (lo + (i : Nat))) else none
def iRng1M (m : ME) : MA := fun δ ah => (m δ ah).bind fun p => match p.1 with | .int n => (gRange 0 n).map fun l => (l, p.2) | _ => none
def iRng2M (a b : ME) : MA := fun δ ah => (a δ ah).bind fun p => (b δ p.2).bind fun q => match p.1, q.1 with | .int i, .int j => (gRange i j).map fun l => (l, q.2) | _, _ => none
theorem drive_range {G : Gx} {s : S} {lo : Int} {n : Nat} : Drive G s ((List.range n).map fun i => .int (lo + (i : Nat))) (Itr lo n) := fun s2 g ok => by
  refine ⟨fun i hi => by simpa [Itr] using hi, by show n ≤ _; simp, fun i d x H' hd hy => ?_⟩
  obtain ⟨eH, rfl⟩ := hy
  rw [List.getElem?_map] at hd
  have hi : i < n := by
    cases q : (List.range n)[i]? with
    | none => rw [q] at hd; cases hd
    | some k => have := (List.getElem?_eq_some_iff.mp q).1; simpa using this
  rw [List.getElem?_range hi] at hd
  cases hd
  exact same_yield g ok eH (.int _)
theorem ri_range1 (hm : X.mg "range" = none) (h : RE X cl e ma) (hg : Gl X "range" := by rfl) (hs : starEach [e] X.env = [(false, eval e X.env)] := by rfl) : RI X cl tg (.Call (.Name "range" p) [e] [] pos) (iRng1M ma) := fun δ s σ ds ah' R h' ok sv q => by
  obtain ⟨⟨z, za⟩, h1, h2⟩ := Option.bind_eq_some_iff.mp h'
  cases z with
  | int n =>
    obtain ⟨l, h3, h4⟩ := Option.map_eq_some_iff.mp h2
    obtain ⟨rfl, rfl⟩ := Prod.mk.inj h4
    unfold gRange at h3
    split at h3
    · rename_i hb
      cases h3
      refine ⟨_, pi_range1 hg hm (pa_cons peW pa_nil hs) hs, h δ s σ _ _ _ h1 ok sv fun s1 v l1 e1 d1 => ?_⟩
      cases d1
      refine ⟨n, rfl, by omega, by omega, q s1 _ l1 e1 ?_⟩
      have : (n - 0).toNat = n.toNat := by omega
      rw [this]
      exact drive_range
    · cases h3
  | _ => cases h2
theorem ri_range2 (hm : X.mg "range" = none) (h : RE X cl a ma) (hb : RE X cl b mb) (hg : Gl X "range" := by rfl) (hs : starEach [a, b] X.env = [(false, eval a X.env), (false, eval b X.env)] := by rfl) (hs2 : starEach [b] X.env = [(false, eval b X.env)] := by rfl) : RI X cl tg (.Call (.Name "range" p) [a, b] [] pos) (iRng2M ma mb) := fun δ s σ ds ah' R h' ok sv q => by
  obtain ⟨⟨z, za⟩, h1, h2⟩ := Option.bind_eq_some_iff.mp h'
  obtain ⟨⟨y, ya⟩, h5, h6⟩ := Option.bind_eq_some_iff.mp h2
  cases z with
  | int i =>
    cases y with
    | int j =>
      obtain ⟨l, h3, h4⟩ := Option.map_eq_some_iff.mp h6
      obtain ⟨rfl, rfl⟩ := Prod.mk.inj h4
      unfold gRange at h3
      split at h3
      · rename_i hbd
        cases h3
        have hs' : starEach [a, b] X.env = (false, eval a X.env) :: starEach [b] X.env := by rw [hs, hs2]
        refine ⟨_, pi_range2 hg hm (pa_cons peW (pa_cons peW pa_nil hs2) hs') hs hs2, h δ s σ _ _ _ h1 ok sv fun s1 v l1 e1 d1 => ?_⟩
        refine hb δ s1 σ _ _ _ (by rw [e1]; exact h5) l1.ok (sv.le l1) fun s2 w l2 e2 d2 => ?_
        cases d1
        cases d2
        exact ⟨i, j, rfl, by omega, q s2 _ (l1.trans l2) e2 drive_range⟩
      · cases h3
    | _ => cases h6
  | _ => cases h6
/-! zip -/
def zipD : List D → List D → List D
  | a :: r, b :: t => .tup [a, b] :: zipD r t
  | _, _ => []
theorem zipD_len : ∀ l m : List D, (zipD l m).length = min l.length m.length
  | [], _ => by simp [zipD]
  | _ :: _, [] => by simp [zipD]
  | _ :: r, _ :: t => by
    rw [zipD, List.length_cons, zipD_len r t, List.length_cons, List.length_cons]
    omega
theorem zipD_at : ∀ {l m : List D} {i : Nat} {d : D}, (zipD l m)[i]? = some d → ∃ x y, l[i]? = some x ∧ m[i]? = some y ∧ d = .tup [x, y]
  | [], _, _, _, h => by simp [zipD] at h
  | _ :: _, [], _, _, h => by simp [zipD] at h
  | x :: r, y :: t, 0, d, h => ⟨x, y, rfl, rfl, by simpa [zipD] using h.symm⟩
  | x :: r, y :: t, i + 1, d, h => by
    obtain ⟨u, w, h1, h2, h3⟩ := zipD_at (l := r) (m := t) (i := i) (by simpa [zipD] using h)
    exact ⟨u, w, by simpa using h1, by simpa using h2, h3⟩
theorem pair_yield {G : Gx} {s2 : S} {T : Addr} {x y : V} {d e : D} {H' : Hp} (ok : Ok G s2) (hT : s2.H T = none) (eH : H' = upd s2.H T (.tup [x, y])) (dx : DV G s2 d x) (dy : DV G s2 e y) : Le G s2 { s2 with H := H' } ∧ DV G { s2 with H := H' } (.tup [d, e]) (.ref T) := by
  subst eH
  have l := le_new ok hT (.tup [x, y])
  exact ⟨l, .tup (.inl upd_same) (fun a => (ok.nav hT) a) (.cons (dx.le l) (.cons (dy.le l) .nil))⟩
def iZipM (a b : ME) : MA := fun δ ah => (a δ ah).bind fun p => (b δ p.2).bind fun q => (gIter p.1).bind fun l => (gIter q.1).map fun m => (zipD l m, q.2)
theorem drive_zip {G : Gx} {s : S} {l m : List D} {u w : Src} {xs ys : List V} (h1 : DVs G s l xs) (h2 : DVs G s m ys) (q1 : ∀ s2, Gr s s2 → SrcIs G.K s2.H u xs) (q2 : ∀ s2, Gr s s2 → SrcIs G.K s2.H w ys) : Drive G s (zipD l m) (ItZ G.K u w) := fun s2 g ok => by
  refine ⟨fun i hi => ?_, ⟨xs, ys, q1 s2 g, q2 s2 g, by rw [zipD_len, h1.len, h2.len]⟩, fun i d x H' hd hy => ?_⟩
  · rw [zipD_len] at hi
    obtain ⟨x, hx⟩ := h1.some_at (i := i) (by omega)
    obtain ⟨y, hy⟩ := h2.some_at (i := i) (by omega)
    exact ⟨xs, ys, x, y, q1 s2 g, q2 s2 g, hx, hy⟩
  · obtain ⟨T, x', y', rfl, hT, eH, f1, f2⟩ := hy
    obtain ⟨d1, d2, e1, e2, rfl⟩ := zipD_at hd
    exact pair_yield ok hT eH ((h1.at e1 (f1 xs (q1 s2 g))).mono g) ((h2.at e2 (f2 ys (q2 s2 g))).mono g)
theorem ri_zip {elts : List Expr} {kk : Nat} {tpos : Pos} (hm : X.mg "zip" = none) (h : RE X cl a ma) (hb : RE X cl b mb) (hg : Gl X "zip" := by rfl) (hs : starEach [a, b] X.env = (false, eval a X.env) :: starEach [b] X.env := by rfl) (hs2 : starEach [b] X.env = (false, eval b X.env) :: starEach [] X.env := by rfl)
    (hpl : (backTo pos (starEach [b] X.env)).any (·.1) = false := by rfl) : RI X cl (.Tuple elts kk tpos) (.Call (.Name "zip" p) [a, b] [] pos) (iZipM ma mb) := fun δ s σ ds ah' R h' ok sv q => by
  obtain ⟨⟨z, za⟩, h1, h2⟩ := Option.bind_eq_some_iff.mp h'
  obtain ⟨⟨y, ya⟩, h5, h6⟩ := Option.bind_eq_some_iff.mp h2
  obtain ⟨l, h7, h8⟩ := Option.bind_eq_some_iff.mp h6
  obtain ⟨m, h9, h10⟩ := Option.map_eq_some_iff.mp h8
  obtain ⟨rfl, rfl⟩ := Prod.mk.inj h10
  refine ⟨_, pi_zipG hg hm (pa_cons peW (pa_cons peW pa_nil hs2) hs) hs hpl, h δ s σ _ _ _ h1 ok sv fun s1 v l1 e1 d1 => ?_⟩
  refine hb δ s1 σ _ _ _ (by rw [e1]; exact h5) l1.ok (sv.le l1) fun s2 w l2 e2 d2 => ?_
  obtain ⟨u1, xs, rfl, k1, q1⟩ := src_of h7 (d1.le l2)
  obtain ⟨u2, ys, rfl, k2, q2⟩ := src_of h9 d2
  exact ⟨u1, u2, xs, ys, rfl, q1 s2 Gr.refl, q2 s2 Gr.refl, q s2 _ (l1.trans l2) e2 (drive_zip k1 k2 q1 q2)⟩
/-! enumerate of a list -/
def enumD : Nat → List D → List D
  | _, [] => []
  | n, d :: r => .tup [.int (n : Nat), d] :: enumD (n + 1) r
theorem enumD_len : ∀ (l : List D) (n : Nat), (enumD n l).length = l.length
  | [], _ => rfl
  | _ :: r, n => by rw [enumD, List.length_cons, enumD_len r, List.length_cons]
theorem enumD_at : ∀ {l : List D} {n i : Nat} {d : D}, (enumD n l)[i]? = some d → ∃ x, l[i]? = some x ∧ d = .tup [.int ((n + i : Nat) : Int), x]
  | [], _, _, _, h => by simp [enumD] at h
  | x :: r, n, 0, d, h => ⟨x, rfl, by simpa [enumD] using h.symm⟩
  | x :: r, n, i + 1, d, h => by
    obtain ⟨u, h1, h2⟩ := enumD_at (l := r) (n := n + 1) (i := i) (by simpa [enumD] using h)
    exact ⟨u, by simpa using h1, by rw [h2, show n + 1 + i = n + (i + 1) by omega]⟩
def iEnumM (a : ME) : MA := fun δ ah => (a δ ah).bind fun p => match p.1 with | .lst l => some (enumD 0 l, p.2) | _ => none
theorem ri_enum {elts : List Expr} {kk : Nat} {tpos : Pos} (hm : X.mg "enumerate" = none) (h : RE X cl a ma) (hg : Gl X "enumerate" := by rfl) (hs : starEach [a] X.env = [(false, eval a X.env)] := by rfl) : RI X cl (.Tuple elts kk tpos) (.Call (.Name "enumerate" p) [a] [] pos) (iEnumM ma) := fun δ s σ ds ah' R h' ok sv q => by
  obtain ⟨⟨z, za⟩, h1, h2⟩ := Option.bind_eq_some_iff.mp h'
  cases z with
  | lst l =>
    obtain ⟨rfl, rfl⟩ := Prod.mk.inj (Option.some.inj h2)
    refine ⟨_, pi_enum hg hm (pa_cons peW pa_nil hs) hs, h δ s σ _ _ _ h1 ok sv fun s1 v l1 e1 d1 => ?_⟩
    obtain ⟨u, vs, rfl, hs', hq⟩ := lst_src (.inl d1)
    refine ⟨u, vs, rfl, hq s1 Gr.refl, q s1 _ l1 e1 fun s2 g ok2 => ⟨fun i hi => ?_, ⟨vs, hq s2 g, by rw [enumD_len, hs'.len]; exact Nat.le_refl _⟩, fun i d x H' hd hy => ?_⟩⟩
    · rw [enumD_len] at hi
      obtain ⟨x, hx⟩ := hs'.some_at hi
      exact ⟨vs, x, hq s2 g, hx⟩
    · obtain ⟨T, x', rfl, hT, eH, f1⟩ := hy
      obtain ⟨d2, e2, rfl⟩ := enumD_at hd
      rw [Nat.zero_add]
      exact pair_yield ok2 hT eH (.int _) ((hs'.at e2 (f1 vs (hq s2 g))).mono g)
  | _ => cases h2
/-! a dict that is data -/
theorem pe_lockV {e : Expr} (h : PE X e (WE X e)) : PE X e (fun σ H Q => WE X e σ H fun x H1 => ∃ d kvs, x = .ref d ∧ ((∃ o, H1 d = some (.frz o (.dK kvs)) ∧ Q x H1) ∨ (H1 d = some (.dK kvs) ∧ ∀ o, Q x (upd H1 d (.frz o (.dK kvs)))))) := by
  refine ⟨fun pins s σ H Q I hw => thn (h.run pins s σ H _ I hw) fun u s1 ⟨x, H1, I1, rx, d, kvs, ex, q⟩ => ?_⟩
  rcases q with ⟨o, _, q⟩ | ⟨hd, q⟩
  · exact ⟨x, H1, I1, rx, q⟩
  · obtain ⟨od, I2⟩ := I1.lock hd trivial
    exact ⟨x, _, I2, rx, q od⟩
def iKeysD (m : ME) : MA := fun δ ah => (m δ ah).bind fun p => match p.1 with | .dic l => some (l.map fun kv => keyD kv.1, p.2) | _ => none
theorem ri_keys (h : RE X cl iter ma) : RI X cl tg iter (iKeysD ma) := fun δ s σ ds ah' R h' ok sv q => by
  obtain ⟨⟨z, za⟩, h1, h2⟩ := Option.bind_eq_some_iff.mp h'
  cases z with
  | dic l =>
    obtain ⟨rfl, rfl⟩ := Prod.mk.inj (Option.some.inj h2)
    refine ⟨_, pi_keys (pe_lockV peW), h δ s σ _ _ _ h1 ok sv fun s1 v l1 e1 d1 => ?_⟩
    cases d1 with
    | @dic _ a kvs e n hk hs =>
      have drv : ∀ s2 o, s2.H a = some (.frz o (.dK kvs)) → ¬ av s2 a → Drive (gx X cl) s2 (l.map fun kv => keyD kv.1) (Itk a o kvs) := fun s2 o e2 n2 s3 g ok3 => by
        have e3 : s3.H a = some (.frz o (.dK kvs)) := (g.keep _ _ e2 n2).of fun _ q => nomatch q
        have hl : kvs.length = l.length := map_len hk
        refine ⟨fun i hi => ⟨e3, by rw [hl]; simpa using hi⟩, ⟨e3, by rw [hl]; simp⟩, fun i d x H' hd hy => ?_⟩
        obtain ⟨eH, k, v, hkv, rfl⟩ := hy
        have e5 : (kvs.map (·.1))[i]? = some k := by rw [List.getElem?_map, hkv]; rfl
        rw [hk, List.getElem?_map] at e5
        rw [List.getElem?_map] at hd
        cases q : l[i]? with
        | none => rw [q] at hd; cases hd
        | some kv =>
          rw [q] at hd e5
          cases hd
          obtain rfl : kv.1 = k := Option.some.inj e5
          obtain ⟨kk, kd⟩ := kv
          refine same_yield g ok3 eH ?_
          cases kk with
          | inl i => exact .int i
          | inr z => exact .str z
      rcases e with e | ⟨o, e⟩
      · refine ⟨a, kvs, rfl, .inr ⟨e, fun o => ?_⟩⟩
        have l2 := le_lock l1.ok e n o
        refine ⟨a, o, rfl, .inl ⟨kvs, upd_same, ?_⟩⟩
        exact q (s1.up a _) _ (l1.trans l2) e1 (drv _ o upd_same (by
          rintro (⟨i, v, k1, k2, k3⟩ | k)
          · exact n (.inl ⟨i, v, k1, k2, k3⟩)
          · exact n (.inr k)))
      · exact ⟨a, kvs, rfl, .inl ⟨o, e, a, o, rfl, .inl ⟨kvs, e, q s1 _ l1 e1 (drv s1 o e n)⟩⟩⟩
  | _ => cases h2

/-! ### list comprehensions -/
def wipeD (δ : DL) : List Nat → DL
  | [] => δ
  | v :: vs => (wipeD δ vs).set v none
theorem wipeD_length (δ : DL) : ∀ vs, (wipeD δ vs).length = δ.length
  | [] => rfl
  | v :: vs => by rw [wipeD, List.length_set, wipeD_length δ vs]
theorem wipe_get (σ : St) (vs : List Nat) (i : Nat) : (wipe σ vs)[i]? = if i ∈ vs then (σ[i]?).map (fun _ => none) else σ[i]? := by
  induction vs with
  | nil => simp [wipe]
  | cons v vs ih =>
    rw [wipe]
    by_cases e : v = i
    · subst e
      rw [List.getElem?_set]
      have hl := wipe_length σ vs
      simp only [hl, if_true, List.mem_cons, true_or]
      by_cases h : v < σ.length
      · simp [h]
      · simp [h]
    · rw [List.getElem?_set_ne e, ih]
      have : (i ∈ v :: vs) ↔ i ∈ vs := by simp [Ne.symm e]
      simp only [this]
theorem wipeD_get (δ : DL) (vs : List Nat) (i : Nat) : (wipeD δ vs)[i]? = if i ∈ vs then (δ[i]?).map (fun _ => none) else δ[i]? := by
  induction vs with
  | nil => simp [wipeD]
  | cons v vs ih =>
    rw [wipeD]
    by_cases e : v = i
    · subst e
      rw [List.getElem?_set]
      have hl := wipeD_length δ vs
      simp only [hl, if_true, List.mem_cons, true_or]
      by_cases h : v < δ.length
      · simp [h]
      · simp [h]
    · rw [List.getElem?_set_ne e, ih]
      have : (i ∈ v :: vs) ↔ i ∈ vs := by simp [Ne.symm e]
      simp only [this]
theorem SV.wipe {G : Gx} {s : S} {δ : DL} {σ : St} (h : SV G s δ σ) (vs : List Nat) : SV G s (wipeD δ vs) (L2.wipe σ vs) := by
  refine ⟨by rw [wipeD_length, wipe_length]; exact h.1, fun i d e => ?_⟩
  rw [wipeD_get] at e
  rw [wipe_get]
  split at e
  · cases q : δ[i]? <;> rw [q] at e <;> cases e
  · rename_i hi
    rw [if_neg hi]
    exact h.2 i d e
theorem wipe_same {σ τ : St} {vs Ts : List Nat} (hl : τ.length = σ.length) (h : ∀ i, i ∉ Ts → τ[i]? = σ[i]?) (hs : ∀ i ∈ Ts, i ∈ vs) : L2.wipe τ vs = L2.wipe σ vs := by
  apply List.ext_getElem?
  intro i
  rw [wipe_get, wipe_get]
  split
  · rename_i hi
    by_cases q : i < σ.length
    · rw [List.getElem?_eq_getElem (hl ▸ q), List.getElem?_eq_getElem q]
      rfl
    · rw [List.getElem?_eq_none (by omega), List.getElem?_eq_none (by omega)]
  · rename_i hi
    exact h i fun z => hi (hs i z)
theorem wipe_wipe (σ : St) (vs : List Nat) : L2.wipe (L2.wipe σ vs) vs = L2.wipe σ vs := by
  apply List.ext_getElem?
  intro i
  rw [wipe_get, wipe_get]
  split
  · cases σ[i]? <;> rfl
  · rfl
abbrev MAH := AH → Option (List D × AH)
/-- a comprehension's turns -/
def compGo (g : D → DL → Option DL) (t : MT) (e : ME) (δ : DL) : List D → MAH
  | [] => fun ah => some ([], ah)
  | d :: r => fun ah => (g d δ).bind fun δ1 => (t δ1 ah).bind fun p => if p.1 = true then (e δ1 p.2).bind fun x => (compGo g t e δ r x.2).map fun y => (x.1 :: y.1, y.2) else compGo g t e δ r p.2
def tYesM : MT := fun _ ah => some (true, ah)
def fComp (mi : MA) (g : D → DL → Option DL) (t : MT) (e : ME) (vs : List Nat) : MA := fun δ ah => (mi δ ah).bind fun p => if p.1.length ≤ 100000 then compGo g t e (wipeD δ vs) p.1 p.2 else none
end
end MM

set_option linter.all false
set_option maxRecDepth 100000
namespace MM
open PySem L2

/-! ### a list in the making stands aside -/
structure Lx (s s' : S) : Prop where
  pre : ∀ (n : Nat) a, s.ι[n]? = some a → s'.ι[n]? = some a
  keep : ∀ a o, s.H a = some o → ¬ live s a → Kept o (s'.H a)
  newl : ∀ a, live s' a → live s a ∨ s.H a = none
  some : ∀ a, s.H a ≠ none → s'.H a ≠ none
theorem Le.lx {G : Gx} {s s' : S} (h : Le G s s') : Lx s s' := ⟨h.pre, h.keep, h.newl, h.some⟩
theorem Lx.trans {s s1 s2 : S} (h1 : Lx s s1) (h2 : Lx s1 s2) : Lx s s2 where
  pre := fun n a h => h2.pre n a (h1.pre n a h)
  keep := fun a o h nl => (h1.keep a o h nl).trans fun u e => h2.keep a u e fun l => (h1.newl a l).elim nl fun q => by rw [h] at q; cases q
  newl := fun a l => by
    rcases h2.newl a l with l | q
    · exact h1.newl a l
    · by_cases h : s.H a = none
      · exact .inr h
      · exact absurd q (h1.some a h)
  some := fun a h => h2.some a (h1.some a h)
/-- s2 is behind s1, with the list at p aside, of the items l -/
structure Side (G : Gx) (s1 s2 : S) (p : Addr) (l : List D) : Prop where
  b : s2.B = fun a => s1.B a ∨ a = p
  lx : Lx s1 s2
  ok : Ok G s2
  at_ : ∃ vs, s2.H p = some (.lst vs) ∧ DVs G s2 l vs
theorem Side.nl {G : Gx} {s1 s2 : S} {p : Addr} {l : List D} (h : Side G s1 s2 p l) : ¬ live s2 p := fun ⟨n, o, e, _, _⟩ => h.ok.dj n p e (by rw [h.b]; exact .inr rfl)
theorem Side.gr {G : Gx} {s1 s2 : S} {p : Addr} {l : List D} (h : Side G s1 s2 p l) (hp : s1.H p = none) : Gr s1 s2 := ⟨h.lx.pre, fun a o e n => h.lx.keep a o e fun q => n (.inl q), fun a l => by
  rcases l with l | l
  · rcases h.lx.newl a l with l | q
    · exact .inl (.inl l)
    · exact .inr q
  · rw [h.b] at l
    rcases l with l | rfl
    · exact .inl (.inr l)
    · exact .inr hp⟩
/-- begun -/
theorem side_start {G : Gx} {s1 : S} {p : Addr} (ok : Ok G s1) (hp : s1.H p = none) : Side G s1 ⟨fun a => s1.B a ∨ a = p, s1.ι, s1.ah, upd s1.H p (.lst [])⟩ p [] := by
  have k : ∀ a u, s1.H a = some u → (upd s1.H p (.lst [])) a = some u := fun a u e => by
    rw [upd_ne (ne_of_none e hp)]
    exact e
  have k' : ∀ a, s1.H a ≠ none → (upd s1.H p (.lst [])) a ≠ none := fun a q => by
    obtain ⟨u, hu⟩ := Option.ne_none_iff_exists'.mp q
    rw [k a u hu]
    exact fun z => by cases z
  have g : Gr s1 ⟨fun a => s1.B a ∨ a = p, s1.ι, s1.ah, upd s1.H p (.lst [])⟩ := ⟨fun _ _ h => h, fun a u e _ => .inl (k a u e), fun a l => by
    rcases l with l | l | rfl
    · exact .inl (.inl l)
    · exact .inl (.inr l)
    · exact .inr hp⟩
  refine ⟨rfl, ⟨fun _ _ h => h, fun a u e _ => .inl (k a u e), fun a l => .inl l, k'⟩, ⟨ok.len, ok.inj, fun n a e => k' a (ok.ne n a e), fun a h => ?_, fun n a e h => ?_, fun n a o e1 e2 => (ok.obj n a o e1 e2).mono g fun u => k a u⟩, [], upd_same, .nil⟩
  · rcases h with h | rfl
    · exact k' a (ok.nb a h)
    · show upd s1.H a (.lst []) a ≠ none
      rw [upd_same]
      exact fun z => by cases z
  · rcases h with h | rfl
    · exact ok.dj n a e h
    · exact ok.ne n a e hp
theorem Side.le {G : Gx} {s1 s2 s3 : S} {p : Addr} {l : List D} (h : Side G s1 s2 p l) (h2 : Le G s2 s3) : Side G s1 s3 p l := by
  refine ⟨by rw [h2.b, h.b], h.lx.trans h2.lx, h2.ok, ?_⟩
  obtain ⟨vs, e, hs⟩ := h.at_
  exact ⟨vs, (h2.keep p _ e h.nl).of (fun _ q => nomatch q), hs.le h2⟩
/-- one item more -/
theorem Side.app {G : Gx} {s1 s2 : S} {p : Addr} {l : List D} (h : Side G s1 s2 p l) (hp : s1.H p = none) {d : D} {v : V} (dv : DV G s2 d v) {vs : List V} (e : s2.H p = some (.lst vs)) (hs : DVs G s2 l vs) : Side G s1 (s2.up p (.lst (vs ++ [v]))) p (l ++ [d]) := by
  have k : ∀ a u, a ≠ p → s2.H a = some u → (s2.up p (.lst (vs ++ [v]))).H a = some u := fun a u n q => by
    show upd s2.H p _ a = some u
    rw [upd_ne n]
    exact q
  have k' : ∀ a, s2.H a ≠ none → (s2.up p (.lst (vs ++ [v]))).H a ≠ none := fun a q => by
    by_cases n : a = p
    · show upd s2.H p _ a ≠ none
      rw [n, upd_same]
      exact fun z => by cases z
    · obtain ⟨u, hu⟩ := Option.ne_none_iff_exists'.mp q
      rw [k a u n hu]
      exact fun z => by cases z
  have pB : s2.B p := by rw [h.b]; exact .inr rfl
  have g : Gr s2 (s2.up p (.lst (vs ++ [v]))) := ⟨fun _ _ h => h, fun a u q n => .inl (k a u (fun z => n (.inr (z ▸ pB))) q), fun a l => .inl l⟩
  refine ⟨h.b, ⟨h.lx.pre, fun a o q nl => ?_, h.lx.newl, fun a q => k' a (h.lx.some a q)⟩, ⟨h.ok.len, h.ok.inj, fun n a q => k' a (h.ok.ne n a q), fun a q => k' a (h.ok.nb a q), h.ok.dj, fun n a o e1 e2 => (h.ok.obj n a o e1 e2).mono g fun u => k a u fun z => h.ok.dj n a e1 (z ▸ pB)⟩, vs ++ [v], upd_same, (hs.mono g).append (.cons (dv.mono g) .nil)⟩
  have n : a ≠ p := ne_of_none q hp
  have := h.lx.keep a o q nl
  show Kept o (upd s2.H p _ a)
  rw [upd_ne n]
  exact this
/-- done: the state without the list -/
theorem Side.done {G : Gx} {s1 s2 : S} {p : Addr} {l : List D} (h : Side G s1 s2 p l) (ok1 : Ok G s1) (hp : s1.H p = none) : ∃ s3 vs, Le G s1 s3 ∧ s3.ah = s2.ah ∧ s3.H p = none ∧ DVs G s3 l vs ∧ s2.H = upd s3.H p (.lst vs) := by
  obtain ⟨vs, e, hs⟩ := h.at_
  have k : ∀ a u, a ≠ p → s2.H a = some u → (fun b => if b = p then none else s2.H b : Hp) a = some u := fun a u n q => by
    show (if a = p then none else s2.H a) = some u
    rw [if_neg n]
    exact q
  have k' : ∀ a, a ≠ p → s2.H a ≠ none → (fun b => if b = p then none else s2.H b : Hp) a ≠ none := fun a n q => by
    show (if a = p then none else s2.H a) ≠ none
    rw [if_neg n]
    exact q
  have pB : s2.B p := by rw [h.b]; exact .inr rfl
  have lv : ∀ a, live ⟨s1.B, s2.ι, s2.ah, fun b => if b = p then none else s2.H b⟩ a → live s2 a := fun a q => q
  have g : Gr s2 ⟨s1.B, s2.ι, s2.ah, fun b => if b = p then none else s2.H b⟩ := ⟨fun _ _ h => h, fun a u q n => .inl (k a u (fun z => n (.inr (z ▸ pB))) q), fun a l => by
    rcases l with l | l
    · exact .inl (.inl l)
    · refine .inl (.inr ?_)
      rw [h.b]
      exact .inl l⟩
  refine ⟨⟨s1.B, s2.ι, s2.ah, fun b => if b = p then none else s2.H b⟩, vs, ⟨rfl, h.lx.pre, fun a o q nl => ?_, h.lx.newl, fun a q => ?_, ⟨h.ok.len, h.ok.inj, fun n a q => k' a (fun z => h.ok.dj n a q (z ▸ pB)) (h.ok.ne n a q), fun a q => ?_, fun n a q b => h.ok.dj n a q (by rw [h.b]; exact .inl b), fun n a o e1 e2 => (h.ok.obj n a o e1 e2).mono g fun u => k a u fun z => h.ok.dj n a e1 (z ▸ pB)⟩⟩, rfl, if_pos rfl, hs.mono g, ?_⟩
  · have n : a ≠ p := ne_of_none q hp
    show Kept o (if a = p then none else s2.H a)
    rw [if_neg n]
    exact h.lx.keep a o q nl
  · have n : a ≠ p := fun z => q (z ▸ hp)
    exact k' a n (h.lx.some a q)
  · have n : a ≠ p := fun z => ok1.nb a q (z ▸ hp)
    exact k' a n (h.lx.some a (ok1.nb a q))
  · funext b
    unfold upd
    by_cases q : b = p
    · rw [if_pos q, q, e]
    · rw [if_neg q]
      show s2.H b = if b = p then none else s2.H b
      rw [if_neg q]

/-! ### the comprehension -/
def RTs (X : Cx) (cl : Str → Option Addr) (ifs : List Expr) (m : MT) : Prop := ∀ (δ : DL) (s : S) (σ : St) (b : Bool) (ah' : AH) (Q : Bool → Hp → Prop), m δ s.ah = some (b, ah') → Ok (gx X cl) s → SV (gx X cl) s δ σ →
  (∀ s', Le (gx X cl) s s' → s'.ah = ah' → Q b s'.H) → ∃ t, PTs X ifs t ∧ t σ s.H Q
theorem pts_any {X : Cx} {ifs : List Expr} : PTs X ifs (fun σ H Q => ∃ t, PTs X ifs t ∧ t σ H Q) := ⟨fun pins s σ H Q I ⟨t, h, q⟩ => h.run pins s σ H Q I q⟩
theorem rts_nil {X : Cx} {cl : Str → Option Addr} : RTs X cl [] tYesM := fun δ s σ b ah' Q h ok sv q => by
  obtain ⟨rfl, rfl⟩ := Prod.mk.inj (Option.some.inj h)
  exact ⟨_, pts_nil, q s (Le.refl ok) rfl⟩
theorem rts_one {X : Cx} {cl : Str → Option Addr} {c : Expr} {m : MT} (hc : RT X cl c m) : RTs X cl [c] m := fun δ s σ b ah' Q h ok sv q => ⟨_, pts_one ptW, hc δ s σ b ah' Q h ok sv q⟩
section
variable {X : Cx} {cl : Str → Option Addr} {elt tg iter : Expr} {ifs : List Expr} {scope : Scope} {own : List (Str × Nat)} {pos : Pos} {mi : MA} {g : D → DL → Option DL} {t : MT} {e : ME} {Ts : List Nat}
abbrev BCx (X : Cx) (scope : Scope) (s : Shared) (H : Hp) (C : Addr) (cl' : List (Str × Addr)) (fp : List Addr) : Cx := X.blk s H scope (compEnvC scope cl' C X.env) fp
def uG (X : Cx) (scope : Scope) (tg : Expr) : TG := fun v σ H Q => ∀ s H0 C cl' fp, ∃ t, PG (BCx X scope s H0 C cl' fp) tg t ∧ t v σ H Q
def uT (X : Cx) (scope : Scope) (ifs : List Expr) : TT := fun σ H Q => ∀ s H0 C cl' fp, ∃ t, PTs (BCx X scope s H0 C cl' fp) ifs t ∧ t σ H Q
def uE (X : Cx) (scope : Scope) (e : Expr) : TE := fun σ H Q => ∀ s H0 C cl' fp, WE (BCx X scope s H0 C cl' fp) e σ H Q
theorem pg_u (s : Shared) (H0 : Hp) (C : Addr) (cl' : List (Str × Addr)) (fp : List Addr) : PG (BCx X scope s H0 C cl' fp) tg (uG X scope tg) := ⟨fun pins st σ H v u Q I r h => by
  obtain ⟨t, h1, h2⟩ := h s H0 C cl' fp
  exact h1.run pins st σ H v u Q I r h2⟩
theorem pts_u (s : Shared) (H0 : Hp) (C : Addr) (cl' : List (Str × Addr)) (fp : List Addr) : PTs (BCx X scope s H0 C cl' fp) ifs (uT X scope ifs) := ⟨fun pins st σ H Q I h => by
  obtain ⟨t, h1, h2⟩ := h s H0 C cl' fp
  exact h1.run pins st σ H Q I h2⟩
theorem pe_u (s : Shared) (H0 : Hp) (C : Addr) (cl' : List (Str × Addr)) (fp : List Addr) : PE (BCx X scope s H0 C cl' fp) elt (uE X scope elt) := ⟨fun pins st σ H Q I h => h s H0 C cl' fp pins st I⟩
abbrev wI (X : Cx) (tg iter : Expr) : TI := fun σ H R => ∃ wi, PI X tg iter wi ∧ wi σ H R
theorem lc_read {vs : List Nat} (hi : RI X cl tg iter mi) (hg : ∀ s H C cl' fp, RG (BCx X scope s H C cl' fp) cl tg Ts g) (ht : ∀ s H C cl' fp, RTs (BCx X scope s H C cl' fp) cl ifs t) (he : ∀ s H C cl' fp, RE (BCx X scope s H C cl' fp) cl elt e) (hsub : ∀ i ∈ Ts, i ∈ vs)
    {δ : DL} {s : S} {σ : St} {ds : List D} {ah' : AH} {Q : VK} (h : fComp mi g t e vs δ s.ah = some (ds, ah')) (ok : Ok (gx X cl) s) (sv : SV (gx X cl) s δ σ) (q : ∀ s1 p vs, Le (gx X cl) s s1 → s1.ah = ah' → s1.H p = none → DVs (gx X cl) s1 ds vs → Q (.ref p) (upd s1.H p (.lst vs))) :
    tLc (wI X tg iter) (uG X scope tg) (uT X scope ifs) (uE X scope elt) vs σ s.H Q := by
  obtain ⟨⟨items, ah1⟩, h1, h2⟩ := Option.bind_eq_some_iff.mp h
  split at h2
  · rename_i hlen
    have hlen : items.length ≤ 100000 := hlen
    refine hi δ s σ items ah1 _ h1 ok sv fun s1 J l1 e1 drv Dl hD => ?_
    refine ⟨fun i m H => ∃ s2 acc rest, s2.H = H ∧ i + m = items.length ∧ Side (gx X cl) s1 s2 Dl acc ∧ acc.length ≤ i ∧ compGo g t e (wipeD δ vs) (items.drop i) s2.ah = some (rest, ah') ∧ ds = acc ++ rest,
      ⟨items.length, _, [], ds, rfl, Nat.zero_add _, side_start l1.ok hD, Nat.le_refl _, by rw [List.drop_zero]; show compGo g t e (wipeD δ vs) items s1.ah = _; rw [e1]; exact h2, rfl⟩, fun i m H hW => ?_⟩
    obtain ⟨s2, acc, rest, rfl, him, sd, hac, hgo, hds⟩ := hW
    obtain ⟨d1, d2, d3⟩ := drv s2 (sd.gr hD) sd.ok
    by_cases hi : i < items.length
    · refine .inr ⟨d1 i hi, fun H' => ∃ s2 acc rest, s2.H = H' ∧ (i + 1) + (m - 1) = items.length ∧ Side (gx X cl) s1 s2 Dl acc ∧ acc.length ≤ i + 1 ∧ compGo g t e (wipeD δ vs) (items.drop (i + 1)) s2.ah = some (rest, ah') ∧ ds = acc ++ rest, fun H' hN => ⟨m - 1, by omega, hN⟩, fun x H' hy => ?_⟩
      obtain ⟨l3, dv3⟩ := d3 i items[i] x H' (List.getElem?_eq_getElem hi) hy
      rw [List.drop_eq_getElem_cons hi] at hgo
      obtain ⟨δ1, k1, k2⟩ := Option.bind_eq_some_iff.mp hgo
      obtain ⟨⟨b, ahb⟩, k3, k4⟩ := Option.bind_eq_some_iff.mp k2
      have sd3 := sd.le l3
      have g3 := sd3.gr hD
      have sv3 : SV (gx X cl) { s2 with H := H' } (wipeD δ vs) (L2.wipe σ vs) := ((sv.le l1).mono g3).wipe vs
      intro sa Ha Ca cla fpa
      refine hg sa Ha Ca cla fpa items[i] x (wipeD δ vs) δ1 { s2 with H := H' } (L2.wipe σ vs) _ k1 sd3.ok dv3 sv3 fun σ2 sv4 hl4 hk4 => ⟨by rw [wipe_same hl4 hk4 hsub, wipe_wipe], ?_⟩
      intro sb Hb Cb clb fpb
      refine ht sb Hb Cb clb fpb δ1 { s2 with H := H' } σ2 b ahb _ k3 sd3.ok sv4 fun s4 l4 e4 => ?_
      have sd4 := sd3.le l4
      cases b with
      | true =>
        rw [if_pos rfl]
        rw [if_pos rfl] at k4
        obtain ⟨⟨y, ahy⟩, k5, k6⟩ := Option.bind_eq_some_iff.mp k4
        obtain ⟨⟨r2, ahr⟩, k7, k8⟩ := Option.map_eq_some_iff.mp k6
        obtain ⟨rfl, rfl⟩ := Prod.mk.inj k8
        intro sc Hc Cc clc fpc
        refine he sc Hc Cc clc fpc δ1 s4 σ2 y ahy _ (by rw [e4]; exact k5) sd4.ok (sv4.le l4) fun s5 v l5 e5 dv5 => ?_
        have sd5 := sd4.le l5
        obtain ⟨vs5, hv5, hs5⟩ := sd5.at_
        refine ⟨vs5, hv5, ?_, s5.up Dl (.lst (vs5 ++ [v])), acc ++ [y], r2, rfl, by omega, sd5.app hD dv5 hv5 hs5, by rw [List.length_append, List.length_singleton]; omega, ?_, by rw [hds, List.append_assoc]; rfl⟩
        · rw [← hs5.len]
          exact Nat.lt_of_lt_of_le (by omega) line100k
        · show compGo g t e (wipeD δ vs) (items.drop (i + 1)) s5.ah = _
          rw [e5]
          exact k7
      | false =>
        rw [if_neg Bool.false_ne_true]
        rw [if_neg Bool.false_ne_true] at k4
        exact ⟨s4, acc, rest, rfl, by omega, sd4, by omega, by rw [e4]; exact k4, hds⟩
    · have hi' : i = items.length := by omega
      subst hi'
      rw [List.drop_length] at hgo
      obtain ⟨rfl, e2⟩ := Prod.mk.inj (Option.some.inj hgo)
      refine .inl ⟨d2, ?_⟩
      obtain ⟨s3, vs3, l3, e3, hp3, hs3, eH⟩ := sd.done l1.ok hD
      rw [eH]
      rw [List.append_nil] at hds
      subst hds
      exact q s3 Dl vs3 (l1.trans l3) (by rw [e3, e2]) hp3 hs3
  · cases h2
theorem rf_lc {vs : List Nat} (hv : own.map (·.2) = vs) (hc : X.calm = true) (hN : X.N.Nodup) (bk : BlkOk X.N X.env.scope scope own) (hi : RI X cl tg iter mi) (hg : ∀ s H C cl' fp, RG (BCx X scope s H C cl' fp) cl tg Ts g) (ht : ∀ s H C cl' fp, RTs (BCx X scope s H C cl' fp) cl ifs t) (he : ∀ s H C cl' fp, RE (BCx X scope s H C cl' fp) cl elt e) (hsub : ∀ i ∈ Ts, i ∈ vs)
    (hs : ∀ x, foldedSetIterable iter X.env x = pure x := by intro _; rfl) : RF X cl (.ListComp elt [⟨tg, iter, ifs, 0⟩] scope pos) (fComp mi g t e vs) := fun δ s σ ds ah' Q h ok sv q => by
  subst hv
  exact WE.of (pe_lc hc hN pi_any bk pg_u pts_u pe_u hs) (lc_read hi hg ht he hsub h ok sv q)
end
end MM

set_option linter.all false
set_option maxRecDepth 100000
namespace MM
open PySem L2

/-! ### statements -/
def sSeq (a b : MS) : MS := fun δ ah => (a δ ah).bind fun p => match p.1 with | .nx δ1 => b δ1 p.2 | o => some (o, p.2)
def sNil : MS := fun δ ah => some (.nx δ, ah)
def sNever : MS := fun _ _ => none
def sAsg (g : D → DL → Option DL) (m : ME) : MS := fun δ ah => (m δ ah).bind fun p => (g p.1 δ).map fun δ1 => (.nx δ1, p.2)
def sExpr (m : ME) : MS := fun δ ah => (m δ ah).map fun p => (.nx δ, p.2)
def sRet (m : ME) : MS := fun δ ah => (m δ ah).map fun p => (.rt p.1, p.2)
def sRetN : MS := fun _ ah => some (.rt .non, ah)
def sIf (c : MT) (a b : MS) : MS := fun δ ah => (c δ ah).bind fun p => if p.1 = true then a δ p.2 else b δ p.2
def sBreak : MS := fun δ ah => some (.bk δ, ah)
def sCont : MS := fun δ ah => some (.ct δ, ah)
/-- the mutable thing in a slot is data from here on -/
def sFrz (i : Nat) (r : MS) : MS := fun δ ah => match δ[i]? with
  | some (some d) => (freeze (d, ah)).bind fun p => r (δ.set i (some p.1)) p.2
  | _ => none
section
variable {X : Cx} {cl : Str → Option Addr} {a b e o c value tg iter : Expr} {st : Stmt} {sts body : List Stmt} {pos pos' : Pos} {m ma mb mo mv : ME} {ms mt mr : MS} {mc : MT} {g : D → DL → Option DL} {Ts : List Nat}
theorem rss_nil : RSs X cl [] sNil := fun δ s σ o ah' E h ok sv q => by
  obtain ⟨rfl, rfl⟩ := Prod.mk.inj (Option.some.inj h)
  exact WSs.of pss_nil (q s (Le.refl ok) rfl σ sv)
theorem rss_cons (h1 : RS X cl st ms) (h2 : RSs X cl sts mt) : RSs X cl (st :: sts) (sSeq ms mt) := fun δ s σ o ah' E h ok sv q => by
  obtain ⟨⟨o1, ah1⟩, k1, k2⟩ := Option.bind_eq_some_iff.mp h
  refine WSs.of (pss_cons psW pssW) (h1 δ s σ o1 ah1 _ k1 ok sv fun s1 l1 e1 => ?_)
  cases o1 with
  | nx δ1 =>
    intro σ1 sv1
    exact h2 δ1 s1 σ1 o ah' E (by rw [e1]; exact k2) l1.ok sv1 fun s2 l2 e2 => q s2 (l1.trans l2) e2
  | rt d =>
    obtain ⟨rfl, rfl⟩ := Prod.mk.inj (Option.some.inj k2)
    exact q s1 l1 e1
  | bk δ1 =>
    obtain ⟨rfl, rfl⟩ := Prod.mk.inj (Option.some.inj k2)
    exact q s1 l1 e1
  | ct δ1 =>
    obtain ⟨rfl, rfl⟩ := Prod.mk.inj (Option.some.inj k2)
    exact q s1 l1 e1
theorem rss_one (h1 : RS X cl st ms) : RSs X cl [st] ms := fun δ s σ o ah' E h ok sv q => WSs.of (pss_one psW) (h1 δ s σ o ah' E h ok sv q)
theorem rss_frz {i : Nat} (h : RSs X cl sts ms) : RSs X cl sts (sFrz i ms) := fun δ s σ o ah' E h' ok sv q => by
  unfold sFrz at h'
  split at h'
  · rename_i d ed
    obtain ⟨⟨d2, ah2⟩, k1, k2⟩ := Option.bind_eq_some_iff.mp h'
    obtain ⟨v, hv, dv⟩ := sv.2 i d ed
    obtain ⟨s2, l2, e2, eH, eι, dv2⟩ := freeze_step k1 ok dv
    have sv2 := (sv.le l2).set dv2 i
    have hσ : σ.set i (some v) = σ := by
      apply List.ext_getElem?
      intro j
      by_cases hj : i = j
      · subst hj
        rw [List.getElem?_set_self (List.getElem?_eq_some_iff.mp hv).1, hv]
      · rw [List.getElem?_set_ne hj]
    rw [hσ] at sv2
    rw [← eH]
    exact h _ s2 σ o ah' E (by rw [e2]; exact k2) l2.ok sv2 fun s3 l3 e3 => q s3 (l2.trans l3) e3
  · cases h'
theorem rs_never : RS X cl st sNever := fun δ s σ o ah' E h ok sv q => by cases h
theorem rss_never : RSs X cl sts sNever := fun δ s σ o ah' E h ok sv q => by cases h
theorem rs_pass : RS X cl (.Pass pos) sNil := fun δ s σ o ah' E h ok sv q => by
  obtain ⟨rfl, rfl⟩ := Prod.mk.inj (Option.some.inj h)
  exact WS.of ps_pass (q s (Le.refl ok) rfl σ sv)
theorem rs_break : RS X cl (.Break pos) sBreak := fun δ s σ o ah' E h ok sv q => by
  obtain ⟨rfl, rfl⟩ := Prod.mk.inj (Option.some.inj h)
  exact WS.of ps_break (q s (Le.refl ok) rfl σ sv)
theorem rs_expr (h : RE X cl e m) (hs : swapsWith e none pos.line X.env = pure false := by rfl) : RS X cl (.Expr e pos) (sExpr m) := fun δ s σ o ah' E h' ok sv q => by
  obtain ⟨p, k1, k2⟩ := Option.map_eq_some_iff.mp h'
  obtain ⟨rfl, rfl⟩ := Prod.mk.inj k2
  exact WS.of (ps_expr peW hs) (h δ s σ p.1 p.2 _ k1 ok sv fun s1 v l1 e1 d1 => q s1 l1 e1 σ (sv.le l1))
theorem rs_ret (h : RE X cl e m) : RS X cl (.Return (some e) pos) (sRet m) := fun δ s σ o ah' E h' ok sv q => by
  obtain ⟨p, k1, k2⟩ := Option.map_eq_some_iff.mp h'
  obtain ⟨rfl, rfl⟩ := Prod.mk.inj k2
  exact WS.of (ps_ret peW) (h δ s σ p.1 p.2 _ k1 ok sv fun s1 v l1 e1 d1 => q s1 l1 e1 v d1)
theorem rs_retN : RS X cl (.Return none pos) sRetN := fun δ s σ o ah' E h' ok sv q => by
  obtain ⟨rfl, rfl⟩ := Prod.mk.inj (Option.some.inj h')
  exact WS.of ps_retN (q s (Le.refl ok) rfl .non .non)
theorem rs_if (hc : RT X cl c mc) (h1 : RSs X cl sts ms) (h2 : RSs X cl body mt) : RS X cl (.If c sts body pos) (sIf mc ms mt) := fun δ s σ o ah' E h' ok sv q => by
  obtain ⟨p, k1, k2⟩ := Option.bind_eq_some_iff.mp h'
  refine WS.of (ps_if ptW pssW pssW) (hc δ s σ p.1 p.2 _ k1 ok sv fun s1 l1 e1 => ?_)
  split
  · rename_i k
    rw [if_pos k] at k2
    exact h1 δ s1 σ o ah' E (by rw [e1]; exact k2) l1.ok (sv.le l1) fun s2 l2 e2 => q s2 (l1.trans l2) e2
  · rename_i k
    rw [if_neg k] at k2
    exact h2 δ s1 σ o ah' E (by rw [e1]; exact k2) l1.ok (sv.le l1) fun s2 l2 e2 => q s2 (l1.trans l2) e2
/-! assignments -/
theorem rs_asg (he : RE X cl e m) (hg : RG X cl tg Ts g) (hs : swapsWithSole [tg] e pos.line X.env = pure false := by rfl) (hw : swappedStores [tg] e X.env = pure none := by rfl) (h1 : (assignEach [tg] X.env).map (·.2) = [assign tg X.env] := by rfl) : RS X cl (.Assign [tg] e pos) (sAsg g m) := fun δ s σ o ah' E h' ok sv q => by
  obtain ⟨p, k1, k2⟩ := Option.bind_eq_some_iff.mp h'
  obtain ⟨δ1, k3, k4⟩ := Option.map_eq_some_iff.mp k2
  obtain ⟨rfl, rfl⟩ := Prod.mk.inj k4
  exact WS.of (ps_asg peW pg_any hs hw h1) (he δ s σ p.1 p.2 _ k1 ok sv fun s1 v l1 e1 d1 => hg p.1 v δ δ1 s1 σ _ k3 l1.ok d1 (sv.le l1) fun σ1 sv1 _ _ => q s1 l1 e1 σ1 sv1)
theorem rs_set (i : Nat) {x : Str} (hN : X.N.Nodup) (he : RE X cl e m) (hi : X.N[i]? = some x := by rfl) (hx : Loc X.env.scope x := by first | exact .inl rfl | exact .inr rfl) (hs : swapsWith e (some (.Name x pos')) pos.line X.env = pure false := by rfl) (hf : X.fn x = true ∨ X.env.scope.names.lookup x = some .local := by first | exact .inl rfl | exact .inr rfl) :
    RS X cl (.Assign [.Name x pos'] e pos) (sAsg (tgN i) m) := fun δ s σ o ah' E h' ok sv q => by
  obtain ⟨p, k1, k2⟩ := Option.bind_eq_some_iff.mp h'
  obtain ⟨δ1, k3, k4⟩ := Option.map_eq_some_iff.mp k2
  obtain ⟨rfl, rfl⟩ := Prod.mk.inj k4
  cases k3
  exact WS.of (ps_set hN hi hx peW hs hf) (he δ s σ p.1 p.2 _ k1 ok sv fun s1 v l1 e1 d1 => q s1 l1 e1 _ ((sv.le l1).set d1 i))
/-- x = [..] on one line, the name a local -/
theorem rs_setLc (i : Nat) {y : Str} {py : Pos} {elt tg iter : Expr} {ifs : List Expr} {scope : Scope} {own : List (Str × Nat)} {spos : Pos} {mi : MA} {g : D → DL → Option DL} {t : MT} {e : ME} {Ts vs : List Nat} (hv : own.map (·.2) = vs) (hc : X.calm = true) (hN : X.N.Nodup) (hy : X.N[i]? = some y) (hyl : X.env.scope.names.lookup y = some .local)
    (hsw : swapsWith (.ListComp elt [⟨tg, iter, ifs, 0⟩] scope pos) (some (.Name y py)) spos.line X.env = pure true) (bk : BlkOk X.N X.env.scope scope own) (hi : RI X cl tg iter mi) (hg : ∀ s H C cl' fp, RG (BCx X scope s H C cl' fp) cl tg Ts g) (ht : ∀ s H C cl' fp, RTs (BCx X scope s H C cl' fp) cl ifs t) (he : ∀ s H C cl' fp, RE (BCx X scope s H C cl' fp) cl elt e) (hsub : ∀ i ∈ Ts, i ∈ vs)
    (hs : ∀ x, foldedSetIterable iter X.env x = pure x := by intro _; rfl) : RS X cl (.Assign [.Name y py] (.ListComp elt [⟨tg, iter, ifs, 0⟩] scope pos) spos) (sAsg (tgN i) (eFrz (fComp mi g t e vs))) := fun δ s σ o ah' E h' ok sv q => by
  subst hv
  obtain ⟨p, k1, k2⟩ := Option.bind_eq_some_iff.mp h'
  obtain ⟨δ1, k3, k4⟩ := Option.map_eq_some_iff.mp k2
  obtain ⟨rfl, rfl⟩ := Prod.mk.inj k4
  cases k3
  obtain ⟨r, k5, k6⟩ := Option.map_eq_some_iff.mp k1
  subst k6
  refine WS.of (ps_setLc hc hN hy hyl hsw pi_any bk pg_u pts_u pe_u hs) (lc_read hi hg ht he hsub k5 ok sv fun s1 p vs l1 e1 hp hs => ?_)
  have l2 := le_new l1.ok hp (.lst vs)
  exact q (s1.up p (.lst vs)) (l1.trans l2) e1 _ (((sv.le l1).le l2).set (.lst upd_same (fun a => (l1.ok.nav hp) a) (hs.le l2)) i)
/-- .. the new list mutable -/
theorem rs_setLcO (i : Nat) {y : Str} {py : Pos} {elt tg iter : Expr} {ifs : List Expr} {scope : Scope} {own : List (Str × Nat)} {spos : Pos} {mi : MA} {g : D → DL → Option DL} {t : MT} {e : ME} {Ts vs : List Nat} (hv : own.map (·.2) = vs) (hc : X.calm = true) (hN : X.N.Nodup) (hy : X.N[i]? = some y) (hyl : X.env.scope.names.lookup y = some .local)
    (hsw : swapsWith (.ListComp elt [⟨tg, iter, ifs, 0⟩] scope pos) (some (.Name y py)) spos.line X.env = pure true) (bk : BlkOk X.N X.env.scope scope own) (hi : RI X cl tg iter mi) (hg : ∀ s H C cl' fp, RG (BCx X scope s H C cl' fp) cl tg Ts g) (ht : ∀ s H C cl' fp, RTs (BCx X scope s H C cl' fp) cl ifs t) (he : ∀ s H C cl' fp, RE (BCx X scope s H C cl' fp) cl elt e) (hsub : ∀ i ∈ Ts, i ∈ vs)
    (hs : ∀ x, foldedSetIterable iter X.env x = pure x := by intro _; rfl) : RS X cl (.Assign [.Name y py] (.ListComp elt [⟨tg, iter, ifs, 0⟩] scope pos) spos) (sAsg (tgN i) (eOwn (fComp mi g t e vs))) := fun δ s σ o ah' E h' ok sv q => by
  subst hv
  obtain ⟨p, k1, k2⟩ := Option.bind_eq_some_iff.mp h'
  obtain ⟨δ1, k3, k4⟩ := Option.map_eq_some_iff.mp k2
  obtain ⟨rfl, rfl⟩ := Prod.mk.inj k4
  cases k3
  obtain ⟨r, k5, k6⟩ := Option.map_eq_some_iff.mp k1
  subst k6
  refine WS.of (ps_setLc hc hN hy hyl hsw pi_any bk pg_u pts_u pe_u hs) (lc_read hi hg ht he hsub k5 ok sv fun s1 p vs l1 e1 hp hs => ?_)
  have l2 : Le (gx X cl) s1 (s1.add p (.lst r.1) (.lst vs)) := le_add l1.ok hp ⟨vs, upd_same, hs.mono (gr_add l1.ok hp _ _)⟩
  refine q (s1.add p (.lst r.1) (.lst vs)) (l1.trans l2) (by rw [← e1]; rfl) _ (((sv.le l1).le l2).set (.ptr ?_) i)
  show (s1.ι ++ [p])[r.2.length]? = some p
  rw [← e1, ← l1.ok.len]
  exact List.getElem?_concat_length
/-- x, y = a, b with plain local names -/
def sPar (i j : Nat) (a b : ME) : MS := fun δ ah => (a δ ah).bind fun p => (b δ p.2).map fun q => (.nx ((δ.set i (some p.1)).set j (some q.1)), q.2)
theorem rs_par (i j : Nat) {x y : Str} {px py pt : Pos} {kt k2 pt2} (hN : X.N.Nodup) (ha : RE X cl a ma) (hb : RE X cl b mb) (hw : swappedStores [.Tuple [.Name x px, .Name y py] kt pt] (.Tuple [a, b] k2 pt2) X.env = pure (some [x, y])) (hi : X.N[i]? = some x := by rfl) (hj : X.N[j]? = some y := by rfl) (hij : i ≠ j := by decide)
    (hx : X.env.scope.names.lookup x = some .local := by rfl) (hy : X.env.scope.names.lookup y = some .local := by rfl) (hc : X.calm = true := by rfl) (hst : starEach [a, b] X.env = (false, eval a X.env) :: starEach [b] X.env := by rfl) (hst2 : starEach [b] X.env = (false, eval b X.env) :: starEach [] X.env := by rfl)
    (hs : swapsWithSole [.Tuple [.Name x px, .Name y py] kt pt] (.Tuple [a, b] k2 pt2) pos.line X.env = pure false := by rfl) : RS X cl (.Assign [.Tuple [.Name x px, .Name y py] kt pt] (.Tuple [a, b] k2 pt2) pos) (sPar i j ma mb) := fun δ s σ o ah' E h' ok sv q => by
  obtain ⟨p, k1, k2⟩ := Option.bind_eq_some_iff.mp h'
  obtain ⟨r, k3, k4⟩ := Option.map_eq_some_iff.mp k2
  obtain ⟨rfl, rfl⟩ := Prod.mk.inj k4
  refine WS.of (ps_par hc hN hi hj hij hx hy (pa_cons peW (pa_cons peW pa_nil hst2) hst) hw hs) (ha δ s σ p.1 p.2 _ k1 ok sv fun s1 v l1 e1 d1 => ?_)
  exact hb δ s1 σ r.1 r.2 _ (by rw [e1]; exact k3) l1.ok (sv.le l1) fun s2 w l2 e2 d2 => ⟨v, w, rfl, q s2 (l1.trans l2) e2 _ ((((sv.le l1).le l2).set (d1.le l2) i).set d2 j)⟩
/-- o.f = e -/
def setAttr (f : Str) (d : D) : List (Str × D) → List (Str × D)
  | [] => [(f, d)]
  | (g, x) :: r => if g = f then (g, d) :: r else (g, x) :: setAttr f d r
def insAt (ah : AH) (n : Nat) : Option (Str × List (Str × D)) := match ah[n]? with | some (.ins c f) => some (c, f) | _ => none
theorem insAt_some {ah : AH} {n : Nat} {c : Str} {f : List (Str × D)} (h : insAt ah n = some (c, f)) : ah[n]? = some (.ins c f) := by
  unfold insAt at h
  split at h
  · rename_i c' f' e
    obtain ⟨rfl, rfl⟩ := Prod.mk.inj (Option.some.inj h)
    exact e
  · cases h
def sFldM (cs : List Str) (f : Str) (mo mv : ME) : MS := fun δ ah => (mv δ ah).bind fun p => (mo δ p.2).bind fun q => match q.1 with
  | .ptr n => (insAt q.2 n).bind fun r => if r.1 ∈ cs ∧ r.2.length < 100 then some (.nx δ, q.2.set n (.ins r.1 (setAttr f p.1 r.2))) else none
  | _ => none
theorem setAttr_v {G : Gx} {s : S} {f : Str} {d : D} {v : V} (dv : DV G s d v) : ∀ {l : List (Str × D)} {fs : List (Str × V)}, fs.map (·.1) = l.map (·.1) → DVs G s (l.map (·.2)) (fs.map (·.2)) →
    (putF f v fs).map (·.1) = (setAttr f d l).map (·.1) ∧ DVs G s ((setAttr f d l).map (·.2)) ((putF f v fs).map (·.2))
  | [], [], _, _ => ⟨rfl, .cons dv .nil⟩
  | [], _ :: _, h, _ => by simp at h
  | _ :: _, [], h, _ => by simp at h
  | (j, x) :: l, (j', y) :: fs, h, hs => by
    simp only [List.map_cons, List.cons.injEq] at h hs
    obtain ⟨rfl, h⟩ := h
    cases hs with
    | cons h1 h2 =>
      unfold setAttr putF
      by_cases e : j' = f
      · rw [if_pos e, if_pos e]
        exact ⟨by simp [h], .cons dv h2⟩
      · rw [if_neg e, if_neg e]
        obtain ⟨i1, i2⟩ := setAttr_v dv h h2
        exact ⟨by simp [i1], .cons h1 i2⟩
theorem rs_fld {cs : List Str} {f : Str} (hf : FldOk X.K cl cs f) (hv : RE X cl value mv) (ho : RE X cl o mo) (hs : swapsWith value (some (.Attribute o f pos')) pos.line X.env = pure false := by rfl) : RS X cl (.Assign [.Attribute o f pos'] value pos) (sFldM cs f mo mv) := fun δ s σ ou ah' E h' ok sv q => by
  obtain ⟨p, k1, k2⟩ := Option.bind_eq_some_iff.mp h'
  obtain ⟨⟨z, za⟩, k3, k4⟩ := Option.bind_eq_some_iff.mp k2
  cases z with
  | ptr n =>
    obtain ⟨⟨c, l⟩, k5, k6⟩ := Option.bind_eq_some_iff.mp k4
    split at k6
    · rename_i hcl
      obtain ⟨rfl, rfl⟩ := Prod.mk.inj (Option.some.inj k6)
      refine WS.of (ps_fld peW peW hs) (hv δ s σ p.1 p.2 _ k1 ok sv fun s1 v l1 e1 d1 => ho δ s1 σ _ _ _ (by rw [e1]; exact k3) l1.ok (sv.le l1) fun s2 w l2 e2 d2 => ?_)
      obtain ⟨a, ea, rfl⟩ := ptr_at d2
      have ei := insAt_some k5
      rw [← show s2.ah = za from e2] at ei
      obtain ⟨C, dx, fs, hc, hH, hk, hd⟩ := l2.ok.obj n a _ ea ei
      obtain ⟨t1, t2⟩ := hf c hcl.1 C hc
      refine ⟨a, C, dx, fs, rfl, hH, t1, t2, ?_, ?_⟩
      · rw [map_len hk]
        exact Nat.lt_of_lt_of_le hcl.2 (by decide)
      · obtain ⟨w1, w2⟩ := setAttr_v (f := f) (d1.le l2) hk hd
        have g := gr_put ea ei (by intro q; cases q) (.ins c (setAttr f p.1 l)) (.ins C dx (putF f v fs))
        have l3 : Le (gx X cl) s2 (s2.put n a (.ins c (setAttr f p.1 l)) (.ins C dx (putF f v fs))) := le_put l2.ok ea ei (by intro q; cases q) ⟨C, dx, _, hc, upd_same, w1, w2.mono g⟩
        exact q _ (l1.trans (l2.trans l3)) (by show s2.ah.set n _ = _; rw [show s2.ah = za from e2]) σ (((sv.le l1).le l2).le l3)
    · cases k6
  | _ => cases k4
/-- o[i] = e of a list -/
def sSubL (mo mi mv : ME) : MS := fun δ ah => (mv δ ah).bind fun p => (mo δ p.2).bind fun q => (mi δ q.2).bind fun r => match q.1, r.1 with
  | .ptr n, .int k => (lstAt r.2 n).bind fun l => (ixN l.length k).map fun j => (.nx δ, r.2.set n (.lst (l.set j p.1)))
  | _, _ => none
theorem rs_subL {i : Expr} {mi : ME} (hv : RE X cl value mv) (ho : RE X cl o mo) (hi : RE X cl i mi) (ha : ∀ v, assign (.Subscript o i pos') X.env v = (do let ov ← holding [v] (eval o X.env); let iv ← holding [v, ov] (eval i X.env); standAt pos'; holding [v, ov, iv] (setItem ov iv v); release [v, ov, iv] []) := by intro _; rfl)
    (hs : swapsWithSole [.Subscript o i pos'] value pos.line X.env = pure false := by rfl) (hw : swappedStores [.Subscript o i pos'] value X.env = pure none := by rfl) (h1 : (assignEach [.Subscript o i pos'] X.env).map (·.2) = [assign (.Subscript o i pos') X.env] := by rfl) : RS X cl (.Assign [.Subscript o i pos'] value pos) (sSubL mo mi mv) := fun δ s σ ou ah' E h' ok sv q => by
  obtain ⟨p, k1, k2⟩ := Option.bind_eq_some_iff.mp h'
  obtain ⟨⟨z, za⟩, k3, k4⟩ := Option.bind_eq_some_iff.mp k2
  obtain ⟨⟨y, ya⟩, k5, k6⟩ := Option.bind_eq_some_iff.mp k4
  cases z with
  | ptr n =>
    cases y with
    | int k =>
      obtain ⟨l, k7, k8⟩ := Option.bind_eq_some_iff.mp k6
      obtain ⟨j, k9, k10⟩ := Option.map_eq_some_iff.mp k8
      obtain ⟨rfl, rfl⟩ := Prod.mk.inj k10
      refine WS.of (ps_asg peW (pg_sub peW peW set_list ha) hs hw h1) (hv δ s σ p.1 p.2 _ k1 ok sv fun s1 v l1 e1 d1 => ho δ s1 σ _ _ _ (by rw [e1]; exact k3) l1.ok (sv.le l1) fun s2 w l2 e2 d2 => ?_)
      refine hi δ s2 σ _ _ _ (by rw [e2]; exact k5) l2.ok ((sv.le l1).le l2) fun s3 u l3 e3 d3 => ?_
      obtain ⟨a, ea, rfl⟩ := ptr_at (d2.le l3)
      cases d3
      have ei := lstAt_some k7
      rw [← show s3.ah = ya from e3] at ei
      obtain ⟨vs, hH, hd⟩ := l3.ok.obj n a _ ea ei
      refine ⟨a, vs, k, j, rfl, rfl, hH, by rw [← hd.len]; exact k9, ?_⟩
      have g := gr_put ea ei (by intro q; cases q) (.lst (l.set j p.1)) (.lst (vs.set j v))
      have l4 : Le (gx X cl) s3 (s3.put n a (.lst (l.set j p.1)) (.lst (vs.set j v))) := le_put l3.ok ea ei (by intro q; cases q) ⟨_, upd_same, (DVs.set ((d1.le l2).le l3) j hd).mono g⟩
      exact q _ (l1.trans (l2.trans (l3.trans l4))) (by show s3.ah.set n _ = _; rw [show s3.ah = ya from e3]) σ ((((sv.le l1).le l2).le l3).le l4)
    | _ => cases k6
  | _ => cases k6
/-- o[k] = e of a dict with keys ints and texts -/
def putD (l : List (Key × D)) (k : Key) (d : D) : List (Key × D) := if (l.any fun kv => decide (kv.1 = k)) = true then l.map (fun kv => if kv.1 = k then (kv.1, d) else kv) else l ++ [(k, d)]
theorem putD_v {G : Gx} {s : S} {d : D} {v : V} (dv : DV G s d v) {l : List (Key × D)} {kvs : List (Key × V)} {k : Key} (hk : kvs.map (·.1) = l.map (·.1)) (hs : DVs G s (l.map (·.2)) (kvs.map (·.2))) :
    (putK kvs k v).map (·.1) = (putD l k d).map (·.1) ∧ DVs G s ((putD l k d).map (·.2)) ((putK kvs k v).map (·.2)) := by
  have e1 : (kvs.any fun kv => decide (kv.1 = k)) = l.any fun kv => decide (kv.1 = k) := by
    have a : ∀ (z : List (Key × V)), (z.any fun kv => decide (kv.1 = k)) = (z.map (·.1)).any fun j => decide (j = k) := fun z => by rw [List.any_map]; rfl
    have b : ∀ (z : List (Key × D)), (z.any fun kv => decide (kv.1 = k)) = (z.map (·.1)).any fun j => decide (j = k) := fun z => by rw [List.any_map]; rfl
    rw [a, b, hk]
  unfold putK putD
  rw [e1]
  split
  · refine ⟨?_, ?_⟩
    · have a : ∀ (z : List (Key × V)), (z.map fun kv => if kv.1 = k then (kv.1, v) else kv).map (·.1) = z.map (·.1) := fun z => by
        rw [List.map_map]
        refine List.map_congr_left fun p _ => ?_
        show (if p.1 = k then (p.1, v) else p).1 = p.1
        split <;> rfl
      have b : ∀ (z : List (Key × D)), (z.map fun kv => if kv.1 = k then (kv.1, d) else kv).map (·.1) = z.map (·.1) := fun z => by
        rw [List.map_map]
        refine List.map_congr_left fun p _ => ?_
        show (if p.1 = k then (p.1, d) else p).1 = p.1
        split <;> rfl
      rw [a, b, hk]
    · rename_i hh; clear hh e1
      induction l generalizing kvs with
      | nil =>
        cases kvs with
        | nil => exact .nil
        | cons _ _ => simp at hk
      | cons p r ih =>
        cases kvs with
        | nil => simp at hk
        | cons q t =>
          simp only [List.map_cons, List.cons.injEq] at hk hs ⊢
          cases hs with
          | cons h1 h2 =>
            refine .cons ?_ (ih hk.2 h2)
            rw [hk.1]
            by_cases e : p.1 = k
            · rw [if_pos e, if_pos e]
              exact dv
            · rw [if_neg e, if_neg e]
              exact h1
  · refine ⟨by simp [hk], ?_⟩
    rw [List.map_append, List.map_append]
    exact hs.append (.cons dv .nil)
def dicAt (ah : AH) (n : Nat) : Option (List (Key × D)) := match ah[n]? with | some (.dic l) => some l | _ => none
theorem dicAt_some {ah : AH} {n : Nat} {l : List (Key × D)} (h : dicAt ah n = some l) : ah[n]? = some (.dic l) := by
  unfold dicAt at h
  split at h
  · rename_i m e
    rw [e]
    exact congrArg (fun z => some (AO.dic z)) (Option.some.inj h)
  · cases h
def sSubD (mo mi mv : ME) : MS := fun δ ah => (mv δ ah).bind fun p => (mo δ p.2).bind fun q => (mi δ q.2).bind fun r => match q.1 with
  | .ptr n => (keyOf r.1).bind fun k => (dicAt r.2 n).bind fun l => if l.length < 100000 then some (.nx δ, r.2.set n (.dic (putD l k p.1))) else none
  | _ => none
theorem rs_subD {i : Expr} {mi : ME} (hu : X.A.units + 64 < cLine) (hv : RE X cl value mv) (ho : RE X cl o mo) (hi : RE X cl i mi) (hs : swapsWith value (some (.Subscript o i pos')) pos.line X.env = pure false := by rfl) : RS X cl (.Assign [.Subscript o i pos'] value pos) (sSubD mo mi mv) := fun δ s σ ou ah' E h' ok sv q => by
  obtain ⟨p, k1, k2⟩ := Option.bind_eq_some_iff.mp h'
  obtain ⟨⟨z, za⟩, k3, k4⟩ := Option.bind_eq_some_iff.mp k2
  obtain ⟨⟨y, ya⟩, k5, k6⟩ := Option.bind_eq_some_iff.mp k4
  cases z with
  | ptr n =>
    obtain ⟨k, k7, k8⟩ := Option.bind_eq_some_iff.mp k6
    obtain ⟨l, k9, k10⟩ := Option.bind_eq_some_iff.mp k8
    split at k10
    · rename_i hl
      obtain ⟨rfl, rfl⟩ := Prod.mk.inj (Option.some.inj k10)
      refine WS.of (ps_dput (by omega) peW peW peW hs) (hv δ s σ p.1 p.2 _ k1 ok sv fun s1 v l1 e1 d1 => ho δ s1 σ _ _ _ (by rw [e1]; exact k3) l1.ok (sv.le l1) fun s2 w l2 e2 d2 => ?_)
      refine hi δ s2 σ _ _ _ (by rw [e2]; exact k5) l2.ok ((sv.le l1).le l2) fun s3 u l3 e3 d3 => ?_
      obtain ⟨a, ea, rfl⟩ := ptr_at (d2.le l3)
      have ei := dicAt_some k9
      rw [← show s3.ah = ya from e3] at ei
      obtain ⟨kvs, hH, hk, hd⟩ := l3.ok.obj n a _ ea ei
      obtain ⟨w1, w2⟩ := putD_v (k := k) ((d1.le l2).le l3) hk hd
      refine ⟨a, _, rfl, .inl ⟨kvs, k, hH, keyOf_v d3 k7, ?_, rfl⟩, ?_⟩
      · rw [map_len hk]
        exact Nat.lt_of_lt_of_le hl line100k
      · have g := gr_put ea ei (by intro q; cases q) (.dic (putD l k p.1)) (.dK (putK kvs k v))
        have l4 : Le (gx X cl) s3 (s3.put n a (.dic (putD l k p.1)) (.dK (putK kvs k v))) := le_put l3.ok ea ei (by intro q; cases q) ⟨_, upd_same, w1, w2.mono g⟩
        exact q _ (l1.trans (l2.trans (l3.trans l4))) (by show s3.ah.set n _ = _; rw [show s3.ah = ya from e3]) σ ((((sv.le l1).le l2).le l3).le l4)
    · cases k10
  | _ => cases k6
/-- o[i] += e of a list, ints -/
def sAugL (mo mi mv : ME) : MS := fun δ ah => (mo δ ah).bind fun q => (mi δ q.2).bind fun r => match q.1, r.1 with
  | .ptr n, .int k => (lstAt r.2 n).bind fun l => match atI l k with
    | some (.int x) => (mv δ r.2).bind fun p => match p.1 with
      | .int y => (lstAt p.2 n).bind fun l2 => (ixN l2.length k).map fun j => (.nx δ, p.2.set n (.lst (l2.set j (.int (x + y)))))
      | _ => none
    | _ => none
  | _, _ => none
end
end MM

set_option linter.all false
set_option maxRecDepth 100000
namespace MM
open PySem L2

/-! ### o[i] += e of a list -/
def pgL : V → V → Hp → VK → Prop := fun o i H Q => ∃ p xs k x, o = .ref p ∧ i = .int k ∧ H p = some (.lst xs) ∧ atI xs k = some x ∧ Q x H
theorem get_lst {X : Cx} : PGet X pgL := fun pins s σ H o i ov iv Q I ro ri h => by
  obtain ⟨p, xs, k, x, rfl, rfl, hp, he, q⟩ := h
  cases ro
  obtain ⟨t, rfl⟩ := ri
  obtain ⟨its, r, pl, hz⟩ := I.list (.inl (.inl hp))
  obtain ⟨j, h1, h2, h3, h4, h5⟩ := atI_get he
  obtain ⟨w, ew, rw'⟩ := r.get h2
  have hl := r.length
  have hn := line63
  have fin : EP X pins σ Q w s := ⟨x, H, I, rw', q⟩
  by_cases h0 : 0 ≤ k
  · have hj : k.toNat = j := by
      rw [seqIndex_of h0 h5] at h1
      exact Option.some.inj h1
    exact wpAny_getItem_list pl.isList h0 (by omega) (by rw [hj]; simpa using ew) fin
  · have hj : (k + (its.toArray.size : Int)).toNat = j := by
      rw [seqIndex_neg (by omega) h4] at h1
      rw [List.size_toArray, ← hl]
      exact Option.some.inj h1
    exact wpAny_getItem_list_neg pl.isList (by omega) (by rw [List.size_toArray] <;> omega) (by omega) (by rw [hj]; simpa using ew) fin
section
variable {X : Cx} {cl : Str → Option Addr} {a b e o c value tg iter : Expr} {st : Stmt} {sts body : List Stmt} {pos pos' : Pos} {m ma mb mo mv mi : ME} {ms mt mr : MS} {mc : MT} {ml : MA} {g : D → DL → Option DL} {Ts : List Nat}
theorem rs_augL {i : Expr} {tpos : Pos} (ho : RE X cl o mo) (hi : RE X cl i mi) (hv : RE X cl value mv)
    (ha : ∀ ov iv new, augStore i ov iv new = (do holding [new, ov, iv] (setItem ov iv new); release [new, ov, iv] []; pure .next) := by intros; rfl) : RS X cl (.AugAssign (.Subscript o i tpos) .Add value pos) (sAugL mo mi mv) := fun δ s σ ou ah' E h' ok sv q => by
  obtain ⟨⟨z, za⟩, k1, k2⟩ := Option.bind_eq_some_iff.mp h'
  obtain ⟨⟨y, ya⟩, k3, k4⟩ := Option.bind_eq_some_iff.mp k2
  cases z with
  | ptr n =>
    cases y with
    | int k =>
      obtain ⟨l, k5, k6⟩ := Option.bind_eq_some_iff.mp k4
      simp only at k6
      split at k6
      · rename_i x hx
        obtain ⟨⟨w, wa⟩, k7, k8⟩ := Option.bind_eq_some_iff.mp k6
        cases w with
        | int u =>
          obtain ⟨l2, k9, k10⟩ := Option.bind_eq_some_iff.mp k8
          obtain ⟨j, k11, k12⟩ := Option.map_eq_some_iff.mp k10
          obtain ⟨rfl, rfl⟩ := Prod.mk.inj k12
          refine WS.of (ps_augS peW peW get_lst peW ip_add set_list ha) (ho δ s σ _ _ _ k1 ok sv fun s1 v l1 e1 d1 => hi δ s1 σ _ _ _ (by rw [e1]; exact k3) l1.ok (sv.le l1) fun s2 iv l2' e2 d2 => ?_)
          obtain ⟨a, ea, rfl⟩ := ptr_at (d1.le l2')
          cases d2
          have ei := lstAt_some k5
          rw [← show s2.ah = ya from e2] at ei
          obtain ⟨vs, hH, hd⟩ := l2'.ok.obj n a _ ea ei
          obtain ⟨xv, h1, h2⟩ := atI_v hd hx
          refine ⟨a, vs, k, xv, rfl, rfl, hH, h1, ?_⟩
          cases h2
          refine hv δ s2 σ _ _ _ (by rw [e2]; exact k7) l2'.ok ((sv.le l1).le l2') fun s3 w3 l3 e3 d3 => ?_
          cases d3
          refine ⟨_, _, rfl, rfl, ?_⟩
          have ea3 := l3.pre n a ea
          have ei3 := lstAt_some k9
          rw [← show s3.ah = wa from e3] at ei3
          obtain ⟨vs3, hH3, hd3⟩ := l3.ok.obj n a _ ea3 ei3
          refine ⟨a, vs3, k, j, rfl, rfl, hH3, by rw [← hd3.len]; exact k11, ?_⟩
          have gg := gr_put ea3 ei3 (by intro q; cases q) (.lst (l2.set j (.int (x + u)))) (.lst (vs3.set j (.int (x + u))))
          have l4 : Le (gx X cl) s3 (s3.put n a (.lst (l2.set j (.int (x + u)))) (.lst (vs3.set j (.int (x + u))))) := le_put l3.ok ea3 ei3 (by intro q; cases q) ⟨_, upd_same, (DVs.set (.int _) j hd3).mono gg⟩
          exact q _ (l1.trans (l2'.trans (l3.trans l4))) (by show s3.ah.set n _ = _; rw [show s3.ah = wa from e3]) σ ((((sv.le l1).le l2').le l3).le l4)
        | _ => cases k8
      · cases k6
    | _ => cases k4
  | _ => cases k4
/-! ### loops -/
def forGo (g : D → DL → Option DL) (b : MS) : List D → MS
  | [] => sNil
  | d :: r => fun δ ah => (g d δ).bind fun δ1 => (b δ1 ah).bind fun p => match p.1 with
    | .nx δ2 => forGo g b r δ2 p.2
    | .ct δ2 => forGo g b r δ2 p.2
    | .bk δ2 => some (.nx δ2, p.2)
    | .rt d => some (.rt d, p.2)
def sFor (mi : MA) (g : D → DL → Option DL) (b : MS) : MS := fun δ ah => (mi δ ah).bind fun p => forGo g b p.1 δ p.2
theorem rs_for (hp : PassesOwn (model X.prog X.w) X.A X.env X.xe) (hc : X.calm = true) (hi : RI X cl tg iter ml) (hg : RG X cl tg Ts g) (hb : RSs X cl body ms) (hs : ∀ x, foldedSetIterable iter X.env x = pure x := by intro _; rfl) : RS X cl (.For tg iter body [] pos) (sFor ml g ms) := fun δ s σ o ah' E h ok sv q => by
  obtain ⟨⟨items, ah1⟩, h1, h2⟩ := Option.bind_eq_some_iff.mp h
  refine WS.of (ps_for hp hc pi_any pg_any pssW hs) ?_
  refine hi δ s σ items ah1 _ h1 ok sv fun s1 J l1 e1 drv => ?_
  refine ⟨fun i m σ H => ∃ s2 δ2, s2.H = H ∧ i + m = items.length ∧ Le (gx X cl) s1 s2 ∧ SV (gx X cl) s2 δ2 σ ∧ forGo g ms (items.drop i) δ2 s2.ah = some (o, ah'), ⟨items.length, s1, δ, rfl, Nat.zero_add _, Le.refl l1.ok, sv.le l1, by rw [List.drop_zero, e1]; exact h2⟩, fun i m σ2 H hW => ?_⟩
  obtain ⟨s2, δ2, rfl, him, l2, sv2, hgo⟩ := hW
  obtain ⟨d1, d2, d3⟩ := drv s2 l2.gr l2.ok
  by_cases hi : i < items.length
  · refine .inr ⟨d1 i hi, fun σ' H' => ∃ s3 δ3, s3.H = H' ∧ (i + 1) + (m - 1) = items.length ∧ Le (gx X cl) s1 s3 ∧ SV (gx X cl) s3 δ3 σ' ∧ forGo g ms (items.drop (i + 1)) δ3 s3.ah = some (o, ah'), fun σ' H' hN => ⟨m - 1, by omega, hN⟩, fun x H' hy => ?_⟩
    obtain ⟨l3, dv3⟩ := d3 i items[i] x H' (List.getElem?_eq_getElem hi) hy
    rw [List.drop_eq_getElem_cons hi] at hgo
    obtain ⟨δ1, k1, k2⟩ := Option.bind_eq_some_iff.mp hgo
    obtain ⟨⟨o1, ah2⟩, k3, k4⟩ := Option.bind_eq_some_iff.mp k2
    refine hg items[i] x δ2 δ1 { s2 with H := H' } σ2 _ k1 l3.ok dv3 (sv2.le l3) fun σ3 sv3 _ _ => ?_
    refine hb δ1 { s2 with H := H' } σ3 o1 ah2 _ k3 l3.ok sv3 fun s4 l4 e4 => ?_
    cases o1 with
    | nx δ4 =>
      intro σ5 sv5
      exact ⟨s4, δ4, rfl, by omega, l2.trans (l3.trans l4), sv5, by rw [e4]; exact k4⟩
    | ct δ4 =>
      intro σ5 sv5
      exact ⟨s4, δ4, rfl, by omega, l2.trans (l3.trans l4), sv5, by rw [e4]; exact k4⟩
    | bk δ4 =>
      obtain ⟨rfl, rfl⟩ := Prod.mk.inj (Option.some.inj k4)
      exact fun σ5 sv5 => q s4 (l1.trans (l2.trans (l3.trans l4))) e4 σ5 sv5
    | rt d =>
      obtain ⟨rfl, rfl⟩ := Prod.mk.inj (Option.some.inj k4)
      exact fun v dv => q s4 (l1.trans (l2.trans (l3.trans l4))) e4 v dv
  · have hi' : i = items.length := by omega
    subst hi'
    rw [List.drop_length] at hgo
    obtain ⟨rfl, e2⟩ := Prod.mk.inj (Option.some.inj hgo)
    exact .inl ⟨d2, q s2 (l1.trans l2) e2 σ2 sv2⟩
def whGo (c : MT) (b : MS) : Nat → MS
  | 0 => fun _ _ => none
  | n + 1 => fun δ ah => (c δ ah).bind fun p => if p.1 = true then (b δ p.2).bind fun o => match o.1 with
    | .nx δ1 => whGo c b n δ1 o.2
    | .ct δ1 => whGo c b n δ1 o.2
    | .bk δ1 => some (.nx δ1, o.2)
    | .rt d => some (.rt d, o.2)
    else some (.nx δ, p.2)
theorem rs_while (n : Nat) (hp : PassesOwn (model X.prog X.w) X.A X.env X.xe) (hc : RT X cl c mc) (hb : RSs X cl body ms) : RS X cl (.While c body [] pos) (whGo mc ms n) := fun δ s σ o ah' E h ok sv q => by
  refine WS.of (ps_while hp ptW pssW) ?_
  refine ⟨fun m σ H => ∃ s2 δ2, s2.H = H ∧ Le (gx X cl) s s2 ∧ SV (gx X cl) s2 δ2 σ ∧ whGo mc ms m δ2 s2.ah = some (o, ah'), ⟨n, s, δ, rfl, Le.refl ok, sv, h⟩, fun m σ2 H hW => ?_⟩
  obtain ⟨s2, δ2, rfl, l2, sv2, hgo⟩ := hW
  cases m with
  | zero => cases hgo
  | succ m =>
    obtain ⟨⟨b, ah1⟩, k1, k2⟩ := Option.bind_eq_some_iff.mp hgo
    refine hc δ2 s2 σ2 b ah1 _ k1 l2.ok sv2 fun s3 l3 e3 => ?_
    cases b with
    | true =>
      rw [if_pos rfl]
      rw [if_pos rfl] at k2
      refine ⟨fun σ' H' => ∃ s4 δ4, s4.H = H' ∧ Le (gx X cl) s s4 ∧ SV (gx X cl) s4 δ4 σ' ∧ whGo mc ms m δ4 s4.ah = some (o, ah'), fun σ' H' hN => ⟨m, Nat.lt_succ_self m, hN⟩, ?_⟩
      obtain ⟨⟨o1, ah2⟩, k3, k4⟩ := Option.bind_eq_some_iff.mp k2
      refine hb δ2 s3 σ2 o1 ah2 _ (by rw [e3]; exact k3) l3.ok (sv2.le l3) fun s4 l4 e4 => ?_
      cases o1 with
      | nx δ4 =>
        intro σ5 sv5
        exact ⟨s4, δ4, rfl, l2.trans (l3.trans l4), sv5, by rw [e4]; exact k4⟩
      | ct δ4 =>
        intro σ5 sv5
        exact ⟨s4, δ4, rfl, l2.trans (l3.trans l4), sv5, by rw [e4]; exact k4⟩
      | bk δ4 =>
        obtain ⟨rfl, rfl⟩ := Prod.mk.inj (Option.some.inj k4)
        exact fun σ5 sv5 => q s4 (l2.trans (l3.trans l4)) e4 σ5 sv5
      | rt d =>
        obtain ⟨rfl, rfl⟩ := Prod.mk.inj (Option.some.inj k4)
        exact fun v dv => q s4 (l2.trans (l3.trans l4)) e4 v dv
    | false =>
      rw [if_neg Bool.false_ne_true]
      rw [if_neg Bool.false_ne_true] at k2
      obtain ⟨rfl, rfl⟩ := Prod.mk.inj (Option.some.inj k2)
      exact q s3 (l2.trans l3) e3 σ2 (sv2.le l3)
/-! ### a try whose body raises nothing -/
theorem rs_try {hd : ExceptHandler} {hds : List ExceptHandler} (h : RSs X.nox cl body ms) : RS X cl (.Try body (hd :: hds) [] [] pos) ms := fun δ s σ o ah' E h' ok sv q => WS.of (ps_try_thru0 pssW) (h δ s σ o ah' E h' ok sv q)
/-! ### a, b, c = a list -/
def sUnl (gs : List D → DL → Option DL) (m : ME) : MS := fun δ ah => (m δ ah).bind fun p => (asL p.2 p.1).bind fun l => (gs l δ).map fun δ1 => (.nx δ1, p.2)
theorem rs_unl {tgs : List Expr} {k : Nat} {tp : Pos} {gs : List D → DL → Option DL} (hc : X.calm = true) (he : RE X cl e m) (hgs : RGs X cl tgs Ts gs) (hl : ∀ l δ δ', gs l δ = some δ' → l.length = (assignEach tgs X.env).length) (hst : (assignEach tgs X.env).findIdx? (·.1) = none := by rfl)
    (hs : swapsWithSole [.Tuple tgs k tp] e pos.line X.env = pure false := by rfl) (hw : swappedStores [.Tuple tgs k tp] e X.env = pure none := by rfl) (h1 : (assignEach [.Tuple tgs k tp] X.env).map (·.2) = [assign (.Tuple tgs k tp) X.env] := by rfl) : RS X cl (.Assign [.Tuple tgs k tp] e pos) (sUnl gs m) := fun δ s σ o ah' E h' ok sv q => by
  obtain ⟨p, k1, k2⟩ := Option.bind_eq_some_iff.mp h'
  obtain ⟨l, k3, k4⟩ := Option.bind_eq_some_iff.mp k2
  obtain ⟨δ1, k5, k6⟩ := Option.map_eq_some_iff.mp k4
  obtain ⟨rfl, rfl⟩ := Prod.mk.inj k6
  refine WS.of (ps_asg peW (pg_unl hc pgs_any rfl hst) hs hw h1) (he δ s σ p.1 p.2 _ k1 ok sv fun s1 v l1 e1 d1 => ?_)
  obtain ⟨a, vs, rfl, hr, hd⟩ := asL_view (l := l) (by rw [e1]; exact k3) l1.ok d1
  exact ⟨a, vs, rfl, .inl (.inl hr), by rw [← hd.len]; exact hl _ _ _ k5, hgs l vs δ δ1 s1 σ _ k5 l1.ok hd (sv.le l1) fun σ1 sv1 _ _ => q s1 l1 e1 σ1 sv1⟩
end
end MM

set_option linter.all false
set_option maxRecDepth 100000
/-! enumerate over a zip of two lists: the zip's tuple may still be out at its next turn. -/
namespace MM
open PySem PySem.Spec PyProof.Rows L2
/-- the zip's record, whatever it gave out before -/
abbrev ZRec (h : Heap) (z TI TO : Addr) (f0 : Value) (f : Bool) : Prop :=
  h.get? z = some { cls := .type "zip", dict := none, data := .fields #[f0, .bool f, .bool false, .ref TI, .ref TO], slots := #[] }
section
variable {prog : Program} {w : World} {A : Around} {E : Value → Shared → Prop} {s : Shared} {z TI TO i1 i2 a1 a2 : Addr} {f0 : Value} {f : Bool} {m1 m2 : Nat} {xs ys : Array Value} {u v p q : Value}
theorem ld_dead {T : Addr} {Q : Option Obj → Shared → Prop} (ho : s.heap.get? T = none) (h : Q none s) : wpAny (model prog w) A (loadIfAlive T) Q E s := by
  have hq : Q (s.heap.get? T) s := by rw [ho]; exact h
  exact fun _ _ _ => hq
theorem zr_free {Q : Bool → Shared → Prop} (hz : ZRec s.heap z TI TO f0 f) (hf : f0 = .none ∨ ∃ T : Nat, f0 = rawInt T ∧ s.heap.get? T = none) (h : Q true s) : wpAny (model prog w) A (Builtin.SmallTypes.ownedTupleIsFree (.ref z)) Q E s := by
  unfold Builtin.SmallTypes.ownedTupleIsFree
  refine wpAny_bind (wpAny_field hz rfl (x := f0) rfl ?_)
  rcases hf with rfl | ⟨T, rfl, hT⟩
  · exact wpAny_pure h
  · show wpAny _ _ (loadIfAlive ((T : Int).toNat) >>= _) _ _ _
    rw [Int.toNat_natCast]
    exact wpAny_bind (ld_dead hT (wpAny_pure h))
theorem zr_item {Q : Value → Shared → Prop} (D : ZipApart z TI TO i1 i2 a1 a2) (hz : ZRec s.heap z TI TO f0 f) (hf : f0 = .none ∨ ∃ T : Nat, f0 = rawInt T ∧ s.heap.get? T = none) (hI : IsPair s.heap TI (.ref i1) (.ref i2)) (hO : IsPair s.heap TO p q)
    (k1 : s.heap.IsListIter i1 a1 m1) (k2 : s.heap.IsListIter i2 a2 m2) (hl1 : s.heap.IsList a1 xs) (hl2 : s.heap.IsList a2 ys) (hu : xs[m1]? = some u) (hv : ys[m2]? = some v)
    (fin : ∀ g, ZRec g z TI TO (rawInt s.heap.objs.size) false → IsPair g TO u v → g.IsListIter i1 a1 (m1 + 1) → g.IsListIter i2 a2 (m2 + 1) → IsPair g s.heap.objs.size u v → g.objs.size = s.heap.objs.size + 1 →
      (∀ c o, c ≠ z → c ≠ TO → c ≠ i1 → c ≠ i2 → s.heap.get? c = some o → g.get? c = some o) → Q (.ref s.heap.objs.size) { s with heap := g }) :
    wpAny (model prog w) A (Builtin.«zip.__next__» ⟨[.ref z], []⟩) (fun r s' => ∃ x, r = .done (.ret x) ∧ Q x s') E s := by
  show wpAny _ _ (field (.ref z) 2 >>= fun _ => _) _ _ _
  refine wpAny_bind (wpAny_field (x := .bool false) hz rfl rfl ?_)
  show wpAny _ _ (field (.ref z) 3 >>= fun _ => _) _ _ _
  refine wpAny_bind (wpAny_field (x := .ref TI) hz rfl rfl ?_)
  refine wpAny_bind (wpAny_seqItems hI rfl ?_)
  refine wpAny_bind (zr_free hz hf ?_)
  simp only [if_true]
  refine wpAny_bind (wpAny_rule ?_)
  refine wpAny_bind (wpAny_field (x := .ref TO) hz rfl rfl ?_)
  refine wpAny_bind (wpAny_setField_rec hz (by simp) fun g1 z1 b1 => ?_)
  replace z1 : ZRec g1 z TI TO .ellipsis f := z1
  refine wpAny_bind ?_
  simp only [List.zipIdx_cons, List.zipIdx_nil, List.forIn_nil, List.forIn_cons]
  refine wpAny_bind (wpAny_bind (wpAny_onRaise ?_))
  show wpAny _ _ (Builtin.SmallTypes.nextOf (.ref i1) >>= fun _ => _) _ _ _
  refine wpAny_bind (wpAny_nextOf_list_item (k1.extBut b1.extBut D.i1z) (hl1.extBut b1.extBut D.l1z) hu fun g2 j2 b2 => wpAny_pure ?_)
  have o2 : IsPair g2 TO p q := b2.extBut _ _ D.TOi1 (b1.extBut _ _ D.TOz hO)
  refine wpAny_bind (wpAny_seqItems o2 rfl ?_)
  refine wpAny_bind (wpAny_updateSeq_pair o2 fun g3 o3 b3 => ?_)
  replace o3 : IsPair g3 TO u q := o3
  refine wpAny_bind (wpAny_letGo (wpAny_pure ?_))
  refine wpAny_bind (wpAny_bind (wpAny_onRaise ?_))
  show wpAny _ _ (Builtin.SmallTypes.nextOf (.ref i2) >>= fun _ => _) _ _ _
  refine wpAny_bind (wpAny_nextOf_list_item (((k2.extBut b1.extBut D.i2z).extBut b2.extBut D.i12.symm).extBut b3.extBut D.TOi2.symm)
    (((hl2.extBut b1.extBut D.l2z).extBut b2.extBut D.l2i1).extBut b3.extBut D.l2TO) hv fun g4 j4 b4 => wpAny_pure ?_)
  have o4 : IsPair g4 TO u q := b4.extBut _ _ D.TOi2 o3
  refine wpAny_bind (wpAny_seqItems o4 rfl ?_)
  refine wpAny_bind (wpAny_updateSeq_pair o4 fun g5 o5 b5 => ?_)
  replace o5 : IsPair g5 TO u v := o5
  refine wpAny_bind (wpAny_letGo (wpAny_pure (wpAny_pure ?_)))
  refine wpAny_bind (wpAny_seqItems o5 rfl ?_)
  refine wpAny_bind (wpAny_newTuple ?_)
  have sz : g5.objs.size = s.heap.objs.size := by rw [b5.1, b4.1, b3.1, b2.1, b1.1]
  have z5 : ZRec g5 z TI TO .ellipsis f := b5.extBut _ _ D.TOz.symm (b4.extBut _ _ D.i2z.symm (b3.extBut _ _ D.TOz.symm (b2.extBut _ _ D.i1z.symm z1)))
  have kp : ∀ c o, c ≠ z → c ≠ TO → c ≠ i1 → c ≠ i2 → s.heap.get? c = some o → g5.get? c = some o := fun c o c1 c2 c3 c4 e =>
    b5.extBut _ _ c2 (b4.extBut _ _ c4 (b3.extBut _ _ c2 (b2.extBut _ _ c3 (b1.extBut _ _ c1 e))))
  have n1 : g5.IsListIter i1 a1 (m1 + 1) := ((j2.extBut b3.extBut D.TOi1.symm).extBut b4.extBut D.i12).extBut b5.extBut D.TOi1.symm
  have n2 : g5.IsListIter i2 a2 (m2 + 1) := j4.extBut b5.extBut D.TOi2.symm
  have zlt : z < g5.objs.size := Heap.lt_size z5
  show wpAny _ _ (Builtin.SmallTypes.ownedTupleHandOut (.ref z) (.ref g5.objs.size) >>= fun _ => _) _ _ _
  refine wpAny_bind ?_
  unfold Builtin.SmallTypes.ownedTupleHandOut
  have z6 : ZRec (g5.push { cls := .type "tuple", data := .seq #[u, v] }) z TI TO .ellipsis f := Heap.get?_push_of_some _ z5
  refine wpAny_bind (wpAny_setField_rec z6 (by simp) fun g7 z7 b7 => ?_)
  replace z7 : ZRec g7 z TI TO (rawInt g5.objs.size) f := z7
  refine wpAny_setField_rec z7 (by simp) fun g8 z8 b8 => ?_
  replace z8 : ZRec g8 z TI TO (rawInt g5.objs.size) false := z8
  have up : ∀ c o, c ≠ z → g5.get? c = some o → g8.get? c = some o := fun c o c1 e => b8.extBut _ _ c1 (b7.extBut _ _ c1 (Heap.get?_push_of_some _ e))
  have t8 : IsPair g8 g5.objs.size u v := b8.extBut _ _ (Nat.ne_of_gt zlt) (b7.extBut _ _ (Nat.ne_of_gt zlt) (Heap.get?_push_size _ rfl))
  have s8 : g8.objs.size = g5.objs.size + 1 := by rw [b8.1, b7.1, Heap.size_push]
  rw [sz] at z8 t8 s8
  refine wpAny_pure ⟨_, rfl, ?_⟩
  show Q (.ref g5.objs.size) _
  rw [sz]
  exact fin g8 z8 (up _ _ D.TOz o5) (n1.at fun o e => up _ o D.i1z e) (n2.at fun o e => up _ o D.i2z e) t8 s8 fun c o c1 c2 c3 c4 e => up c o c1 (kp c o c1 c2 c3 c4 e)
theorem zr_end {Q : Fin → Shared → Prop} (hh : A.handled = none) (D : ZipApart z TI TO i1 i2 a1 a2) (hz : ZRec s.heap z TI TO f0 f) (hf : f0 = .none ∨ ∃ T : Nat, f0 = rawInt T ∧ s.heap.get? T = none) (hI : IsPair s.heap TI (.ref i1) (.ref i2)) (hO : IsPair s.heap TO p q)
    (k1 : s.heap.IsListIter i1 a1 m1) (k2 : s.heap.IsListIter i2 a2 m2) (hl1 : s.heap.IsList a1 xs) (hl2 : s.heap.IsList a2 ys) (hend : xs[m1]? = none ∨ ys[m2]? = none)
    (fin : ∀ g e, (∀ c o, c ≠ z → c ≠ TO → c ≠ i1 → c ≠ i2 → s.heap.get? c = some o → g.get? c = some o) → (∃ o, g.get? e = some o ∧ o.cls = .type "StopIteration") → E (.ref e) { s with heap := g }) :
    wpAny (model prog w) A (Builtin.«zip.__next__» ⟨[.ref z], []⟩) Q E s := by
  show wpAny _ _ (field (.ref z) 2 >>= fun _ => _) _ _ _
  refine wpAny_bind (wpAny_field (x := .bool false) hz rfl rfl ?_)
  show wpAny _ _ (field (.ref z) 3 >>= fun _ => _) _ _ _
  refine wpAny_bind (wpAny_field (x := .ref TI) hz rfl rfl ?_)
  refine wpAny_bind (wpAny_seqItems hI rfl ?_)
  refine wpAny_bind (zr_free hz hf ?_)
  simp only [if_true]
  refine wpAny_bind (wpAny_rule ?_)
  refine wpAny_bind (wpAny_field (x := .ref TO) hz rfl rfl ?_)
  refine wpAny_bind (wpAny_setField_rec hz (by simp) fun g1 z1 b1 => ?_)
  replace z1 : ZRec g1 z TI TO .ellipsis f := z1
  refine wpAny_bind ?_
  simp only [List.zipIdx_cons, List.zipIdx_nil, List.forIn_nil, List.forIn_cons]
  refine wpAny_bind (wpAny_bind (wpAny_onRaise ?_))
  show wpAny _ _ (Builtin.SmallTypes.nextOf (.ref i1) >>= fun _ => _) _ _ _
  cases hx : xs[m1]? with
  | none =>
    refine wpAny_bind (wpAny_nextOf_list_end hh (k1.extBut b1.extBut D.i1z) (hl1.extBut b1.extBut D.l1z) hx fun g2 e b2 he => ?_)
    obtain ⟨oe, e1, e2⟩ := he
    have z2 : ZRec g2 z TI TO .ellipsis f := b2 _ _ D.i1z.symm z1
    have ne : e ≠ z := fun x => by subst x; rw [z2] at e1; cases e1; simp at e2
    refine wpAny_setField_rec z2 (by simp) fun g3 _ b3 => fin g3 e (fun c o c1 _ c3 _ x => b3.extBut _ _ c1 (b2 _ _ c3 (b1.extBut _ _ c1 x))) ⟨oe, b3.extBut _ _ ne e1, e2⟩
  | some x =>
    have hy : ys[m2]? = none := hend.resolve_left fun h => by rw [hx] at h; cases h
    refine wpAny_bind (wpAny_nextOf_list_item (k1.extBut b1.extBut D.i1z) (hl1.extBut b1.extBut D.l1z) hx fun g2 j2 b2 => wpAny_pure ?_)
    have o2 : IsPair g2 TO p q := b2.extBut _ _ D.TOi1 (b1.extBut _ _ D.TOz hO)
    refine wpAny_bind (wpAny_seqItems o2 rfl ?_)
    refine wpAny_bind (wpAny_updateSeq_pair o2 fun g3 o3 b3 => ?_)
    refine wpAny_bind (wpAny_letGo (wpAny_pure ?_))
    refine wpAny_bind (wpAny_bind (wpAny_onRaise ?_))
    show wpAny _ _ (Builtin.SmallTypes.nextOf (.ref i2) >>= fun _ => _) _ _ _
    refine wpAny_bind (wpAny_nextOf_list_end hh (((k2.extBut b1.extBut D.i2z).extBut b2.extBut D.i12.symm).extBut b3.extBut D.TOi2.symm)
      (((hl2.extBut b1.extBut D.l2z).extBut b2.extBut D.l2i1).extBut b3.extBut D.l2TO) hy fun g4 e b4 he => ?_)
    obtain ⟨oe, e1, e2⟩ := he
    have z4 : ZRec g4 z TI TO .ellipsis f := b4 _ _ D.i2z.symm (b3.extBut _ _ D.TOz.symm (b2.extBut _ _ D.i1z.symm z1))
    have ne : e ≠ z := fun x => by subst x; rw [z4] at e1; cases e1; simp at e2
    refine wpAny_setField_rec z4 (by simp) fun g5 _ b5 => fin g5 e (fun c o c1 c2 c3 c4 x => b5.extBut _ _ c1 (b4 _ _ c4 (b3.extBut _ _ c2 (b2.extBut _ _ c3 (b1.extBut _ _ c1 x))))) ⟨oe, b5.extBut _ _ ne e1, e2⟩
/-- the zip as an iterator within another: its turn, whatever it gave out -/
def ZSt2 (z TI TO i1 i2 a1 a2 : Addr) (i : Nat) (h : Heap) : Prop := (∃ f0 f, ZRec h z TI TO f0 f ∧ (f0 = .none ∨ ∃ T : Nat, f0 = rawInt T)) ∧ IsPair h TI (.ref i1) (.ref i2) ∧ (∃ x y, IsPair h TO x y) ∧ h.IsListIter i1 a1 i ∧ h.IsListIter i2 a2 i
theorem zs_item {i : Nat} {Q : Value → Shared → Prop} (D : ZipApart z TI TO i1 i2 a1 a2) (st : ZSt2 z TI TO i1 i2 a1 a2 i s.heap) (hl1 : s.heap.IsList a1 xs) (hl2 : s.heap.IsList a2 ys) (hu : xs[i]? = some u) (hv : ys[i]? = some v)
    (fin : ∀ g, ZSt2 z TI TO i1 i2 a1 a2 (i + 1) g → IsPair g s.heap.objs.size u v → g.objs.size = s.heap.objs.size + 1 → (∀ c o, c ≠ z → c ≠ TO → c ≠ i1 → c ≠ i2 → s.heap.get? c = some o → g.get? c = some o) → Q (.ref s.heap.objs.size) { s with heap := g }) :
    wpAny (model prog w) A (Builtin.SmallTypes.nextOf (.ref z)) Q E s := by
  obtain ⟨⟨f0, f, hz, hf⟩, hI, ⟨p, q, hO⟩, k1, k2⟩ := st
  have hT : s.TypeIs (.ref z) "zip" := ⟨_, hz, rfl⟩
  have via : wpAny (model prog w) A.in1 (Builtin.«zip.__next__» ⟨[.ref z], []⟩) (fun r s' => ∃ x, r = .done (.ret x) ∧ Q x s') E s := by
    by_cases hfree : f0 = .none ∨ ∃ T : Nat, f0 = rawInt T ∧ s.heap.get? T = none
    · exact zr_item D hz hfree hI hO k1 k2 hl1 hl2 hu hv fun g c1 c2 c3 c4 c5 c6 c7 => fin g ⟨⟨_, _, c1, .inr ⟨_, rfl⟩⟩, c7 _ _ D.TIz D.TITO D.TIi1 D.TIi2 hI, ⟨_, _, c2⟩, c3, c4⟩ c5 c6 c7
    · rcases hf with e | ⟨T, rfl⟩
      · exact absurd (.inl e) hfree
      · cases hg : s.heap.get? T with
        | none => exact absurd (.inr ⟨T, rfl, hg⟩) hfree
        | some o => exact zip_next_item_held D (T := T) hz hg hI k1 k2 hl1 hl2 hu hv fun g c1 c3 c4 c5 c6 c7 => fin g ⟨⟨_, _, c1, .inr ⟨_, rfl⟩⟩, c7 _ _ D.TIz D.TIi1 D.TIi2 hI, ⟨_, _, c7 _ _ D.TOz D.TOi1 D.TOi2 hO⟩, c3, c4⟩ c5 c6 fun c o h1 _ h3 h4 e => c7 c o h1 h3 h4 e
  unfold Builtin.SmallTypes.nextOf
  refine wpAny_bind (wpAny_callSpecial?_slot (name := Str.ofString "__next__") hT F.slot_zip_next (wpAny_call_entry F.slot_zip_next hT F.entry_zip_next (wpAny_mono via (fun r s' ⟨x, e, hq⟩ => ⟨x, e, ?_⟩) fun _ _ e => e) (F.args_zip_next_1 _)))
  exact wpAny_pure hq
theorem zs_end {i : Nat} {Q : Value → Shared → Prop} (hh : A.handled = none) (D : ZipApart z TI TO i1 i2 a1 a2) (st : ZSt2 z TI TO i1 i2 a1 a2 i s.heap) (hl1 : s.heap.IsList a1 xs) (hl2 : s.heap.IsList a2 ys) (hend : xs[i]? = none ∨ ys[i]? = none)
    (fin : ∀ g e, (∀ c o, c ≠ z → c ≠ TO → c ≠ i1 → c ≠ i2 → s.heap.get? c = some o → g.get? c = some o) → (∃ o, g.get? e = some o ∧ o.cls = .type "StopIteration") → E (.ref e) { s with heap := g }) :
    wpAny (model prog w) A (Builtin.SmallTypes.nextOf (.ref z)) Q E s := by
  obtain ⟨⟨f0, f, hz, hf⟩, hI, ⟨p, q, hO⟩, k1, k2⟩ := st
  have hT : s.TypeIs (.ref z) "zip" := ⟨_, hz, rfl⟩
  have via : ∀ Q' : Fin → Shared → Prop, wpAny (model prog w) A.in1 (Builtin.«zip.__next__» ⟨[.ref z], []⟩) Q' E s := fun Q' => by
    by_cases hfree : f0 = .none ∨ ∃ T : Nat, f0 = rawInt T ∧ s.heap.get? T = none
    · exact zr_end (show A.in1.handled = none from hh) D hz hfree hI hO k1 k2 hl1 hl2 hend fin
    · rcases hf with e | ⟨T, rfl⟩
      · exact absurd (.inl e) hfree
      · cases hg : s.heap.get? T with
        | none => exact absurd (.inr ⟨T, rfl, hg⟩) hfree
        | some o => exact zip_next_end_held (show A.in1.handled = none from hh) D (T := T) hz hg hI k1 k2 hl1 hl2 hend fun g e c7 => fin g e fun c o h1 _ h3 h4 e => c7 c o h1 h3 h4 e
  unfold Builtin.SmallTypes.nextOf
  exact wpAny_bind (wpAny_callSpecial?_slot (name := Str.ofString "__next__") hT F.slot_zip_next (wpAny_call_entry F.slot_zip_next hT F.entry_zip_next (via _) (F.args_zip_next_1 _)))
end
end MM

set_option linter.all false
set_option maxRecDepth 100000
namespace MM
open PySem PySem.Spec PyProof.Rows L2
section
variable {prog : Program} {w : World} {A : Around} {E : Value → Shared → Prop} {s : Shared} {e it : Addr} {i : Nat} {old : Value} {R : Value → Heap → Nat → Prop}
/-- a turn of enumerate over what may lay objects of its own -/
theorem en_item {Q : Value → Shared → Prop} (he : IsEnum s.heap e it i old) (hin : ∀ Q' : Value → Shared → Prop, (∀ x g tk, R x g tk → Q' x { s with heap := g, toks := tk }) → wpAny (model prog w) A (Builtin.SmallTypes.nextOf (.ref it)) Q' E s) (hRe : ∀ x g tk, R x g tk → IsEnum g e it i old)
    (fin : ∀ x g tk, R x g tk → ∀ k, IsEnumOut k e it ((i : Int) + 1) x g.objs.size → k.get? g.objs.size = some { cls := .type "tuple", data := .seq #[.int i tk, x] } → k.objs.size = g.objs.size + 1 → (∀ b o, b ≠ e → g.get? b = some o → k.get? b = some o) → Q (.ref g.objs.size) { s with heap := k, toks := tk + 1 }) :
    wpAny (model prog w) A (Builtin.«enumerate.__next__» ⟨[.ref e], []⟩) (fun r s' => ∃ v, r = .done (.ret v) ∧ Q v s') E s := by
  obtain ⟨hp, gg, dd, tk0, os⟩ := s
  show wpAny _ _ (field (.ref e) 2 >>= fun _ => _) _ _ _
  refine wpAny_bind (wpAny_field (x := .ref it) he rfl rfl ?_)
  refine wpAny_bind (hin _ fun x g1 tk hr => ?_)
  have e1 : IsEnum g1 e it i old := hRe x g1 tk hr
  show wpAny _ _ (field (.ref e) 3 >>= fun _ => _) _ _ ⟨g1, gg, dd, tk, os⟩
  refine wpAny_bind (wpAny_field (x := rawInt i) e1 rfl rfl ?_)
  show wpAny _ _ (field (.ref e) 4 >>= fun _ => _) _ _ ⟨g1, gg, dd, tk, os⟩
  refine wpAny_bind (wpAny_field (x := .none) e1 rfl rfl ?_)
  show wpAny _ _ (mkInt i >>= fun _ => _) _ _ ⟨g1, gg, dd, tk, os⟩
  refine wpAny_bind (wpAny_mkInt ?_)
  show wpAny _ _ (setField (.ref e) 3 (rawInt ((i : Int) + 1)) >>= fun _ => _) _ _ ⟨g1, gg, dd, tk + 1, os⟩
  refine wpAny_bind (wpAny_setField_rec e1 (by simp) fun g2 e2 b2 => ?_)
  replace b2 : Heap.SameBut e g1 g2 := b2
  replace e2 : IsEnum g2 e it ((i : Int) + 1) old := e2
  show wpAny _ _ (setField (.ref e) 4 .none >>= fun _ => _) _ _ ⟨g2, gg, dd, tk + 1, os⟩
  refine wpAny_bind (wpAny_setField_rec e2 (by simp) fun g3 e3 b3 => ?_)
  replace b3 : Heap.SameBut e g2 g3 := b3
  replace e3 : IsEnum g3 e it ((i : Int) + 1) old := e3
  show wpAny _ _ (newTuple [.int i tk, x] >>= fun _ => _) _ _ ⟨g3, gg, dd, tk + 1, os⟩
  refine wpAny_bind (wpAny_newTuple ?_)
  have e4 : IsEnum (g3.push { cls := .type "tuple", data := .seq #[.int i tk, x] }) e it ((i : Int) + 1) old := Heap.get?_push_of_some _ e3
  generalize hg4 : g3.push { cls := .type "tuple", data := .seq #[.int i tk, x] } = g4 at e4
  have sz : g3.objs.size = g1.objs.size := by rw [b3.1, b2.1]
  have el : e < g1.objs.size := Heap.lt_size e1
  have t4 : g4.get? g1.objs.size = some { cls := .type "tuple", data := .seq #[.int i tk, x] } := by rw [← hg4, ← sz]; exact Heap.get?_push_size _ rfl
  have s4 : g4.objs.size = g1.objs.size + 1 := by rw [← hg4, Heap.size_push, sz]
  have k4 : ∀ b o, b ≠ e → g1.get? b = some o → g4.get? b = some o := fun b o hbe hb => by
    rw [← hg4]; exact Heap.get?_push_of_some _ (b3.extBut b o hbe (b2.extBut b o hbe hb))
  show wpAny _ _ (Builtin.SmallTypes.ownedTupleIsFree (.ref e) >>= fun _ => _) _ _ ⟨g4, gg, dd, tk + 1, os⟩
  rw [sz]
  refine wpAny_bind ?_
  unfold Builtin.SmallTypes.ownedTupleIsFree
  refine wpAny_bind (wpAny_field (x := .none) e4 rfl rfl (wpAny_pure ?_))
  simp only [if_true]
  refine wpAny_bind (wpAny_rule ?_)
  refine wpAny_bind (wpAny_field (x := old) e4 rfl rfl ?_)
  refine wpAny_bind (wpAny_setField_rec e4 (by simp) fun g5 e5 b5 => ?_)
  replace b5 : Heap.SameBut e g4 g5 := b5
  replace e5 : IsEnum g5 e it ((i : Int) + 1) x := e5
  show wpAny _ _ (Builtin.SmallTypes.ownedTupleHandOut (.ref e) (.ref g1.objs.size) >>= fun _ => _) _ _ ⟨g5, gg, dd, tk + 1, os⟩
  refine wpAny_bind ?_
  unfold Builtin.SmallTypes.ownedTupleHandOut
  refine wpAny_bind (wpAny_setField_rec e5 (by simp) fun g6 e6 b6 => ?_)
  replace b6 : Heap.SameBut e g5 g6 := b6
  replace e6 : IsEnumOut g6 e it ((i : Int) + 1) x g1.objs.size := e6
  refine wpAny_setField_rec e6 (by simp) fun g7 e7 b7 => ?_
  replace b7 : Heap.SameBut e g6 g7 := b7
  replace e7 : IsEnumOut g7 e it ((i : Int) + 1) x g1.objs.size := e7
  refine wpAny_bind (wpAny_letGo (wpAny_pure ⟨_, rfl, fin x g1 tk hr g7 e7 ?_ ?_ ?_⟩))
  · exact b7.extBut _ _ (Nat.ne_of_gt el) (b6.extBut _ _ (Nat.ne_of_gt el) (b5.extBut _ _ (Nat.ne_of_gt el) t4))
  · rw [b7.1, b6.1, b5.1, s4]
  · exact fun b o hbe hb => b7.extBut b o hbe (b6.extBut b o hbe (b5.extBut b o hbe (k4 b o hbe hb)))
/-- the turns of enumerate(zip(a list, a list)) -/
def ItEZ (K : PySem.W.Frag) (a b : Addr) : It :=
  ⟨fun i H => ∃ (xs ys : List V) (x y : V), SqL K H a xs ∧ SqL K H b ys ∧ xs[i]? = some x ∧ ys[i]? = some y,
    fun i H v H' => ∃ T U x y, v = .ref U ∧ H T = none ∧ H U = none ∧ U ≠ T ∧ H' = upd (upd H T (.tup [x, y])) U (.tup [.int (i : Nat), .ref T]) ∧ (∀ xs, SqL K H a xs → xs[i]? = some x) ∧ ∀ ys, SqL K H b ys → ys[i]? = some y,
    fun i H => ∃ xs ys : List V, SqL K H a xs ∧ SqL K H b ys ∧ (xs.length ≤ i ∨ ys.length ≤ i)⟩
def EZSt (e z TI TO i1 i2 a1 a2 : Addr) (i : Nat) (h : Heap) : Prop := (∃ old, IsEnum h e z ((i : Nat) : Int) old) ∧ ZSt2 z TI TO i1 i2 a1 a2 i h
theorem turn_ez {P : Program} {w : World} {K : PySem.W.Frag} {elts : List Expr} {kk : Nat} {tpos : Pos} {a b e z TI TO i1 i2 : Addr} (D : ZipApart z TI TO i1 i2 a b) (hz : e ≠ z) (hI : e ≠ TI) (hO : e ≠ TO) (h1 : e ≠ i1) (h2 : e ≠ i2) :
    Turn P w K (.Tuple elts kk tpos) (ItEZ K a b) [e, z, TI, TO, i1, i2] e (EZSt e z TI TO i1 i2 a b) where
  mem := by simp
  obj := fun i h st c hc => by
    obtain ⟨⟨old, he⟩, ⟨f0, f, hz, _⟩, hTI, ⟨x, y, hTO⟩, ⟨o1, e1, _, d1⟩, ⟨o2, e2, _, d2⟩⟩ := st
    simp only [List.mem_cons, List.not_mem_nil, or_false] at hc
    rcases hc with rfl | rfl | rfl | rfl | rfl | rfl
    · exact ⟨_, he, fun v q => nomatch q⟩
    · exact ⟨_, hz, fun v q => nomatch q⟩
    · exact ⟨_, hTI, fun v q => nomatch q⟩
    · exact ⟨_, hTO, fun v q => nomatch q⟩
    · exact ⟨o1, e1, fun v q => by rw [d1] at q; cases q⟩
    · exact ⟨o2, e2, fun v q => by rw [d2] at q; cases q⟩
  keep := fun i h h' st k => by
    obtain ⟨⟨old, he⟩, ⟨f0, f, hz, hf⟩, hTI, ⟨x, y, hTO⟩, h1, h2⟩ := st
    exact ⟨⟨old, k e (by simp) _ he⟩, ⟨f0, f, k z (by simp) _ hz, hf⟩, k TI (by simp) _ hTI, ⟨x, y, k TO (by simp) _ hTO⟩, h1.at fun o q => k i1 (by simp) o q, h2.at fun o q => k i2 (by simp) o q⟩
  item := by
    intro X hP hw hK hc i pins s σ H E I hf st hg
    subst hP hw hK
    obtain ⟨⟨old, he⟩, zst⟩ := st
    obtain ⟨xs, ys, x, y, hqx, hqy, hx, hy⟩ := hg
    obtain ⟨its, rv, p, _⟩ := I.list hqx
    obtain ⟨its2, rv2, p2, _⟩ := I.list hqy
    obtain ⟨u, hu, ru⟩ := rv.get hx
    obtain ⟨u2, hu2, ru2⟩ := rv2.get hy
    have hel : e < s.heap.objs.size := Heap.lt_size he
    have hT : s.TypeIs (.ref e) "enumerate" := ⟨_, he, rfl⟩
    unfold pyNext
    refine wpAny_bind (wpAny_attempt (wpAny_callSpecial?_slot (name := Str.ofString "__next__") hT F.slot_enumerate_next (wpAny_call_entry F.slot_enumerate_next hT F.entry_enumerate_next
      (en_item (R := fun v g tk => v = .ref s.heap.objs.size ∧ tk = s.toks ∧ ZSt2 z TI TO i1 i2 a b (i + 1) g ∧ IsPair g s.heap.objs.size u u2 ∧ g.objs.size = s.heap.objs.size + 1 ∧ ∀ c o, c ≠ z → c ≠ TO → c ≠ i1 → c ≠ i2 → s.heap.get? c = some o → g.get? c = some o) he (fun Q' hQ' => ?_) (fun v g tk hr => ?_) (fun v g tk hr k hE hU hs hk => ?_)) (F.args_enumerate_next_1 _))))
    · exact zs_item D zst p.isList p2.isList (u := u) (v := u2) (by simpa using hu) (by simpa using hu2) fun g c1 c2 c3 c4 => hQ' _ g s.toks ⟨rfl, rfl, c1, c2, c3, c4⟩
    · exact hr.2.2.2.2.2 _ _ hz hO h1 h2 he
    · obtain ⟨rfl, rfl, zs2, hp1, hsz, hkp⟩ := hr
      refine wpAny_pure ⟨_, rfl, wpAny_letOwnedTupleGo_enum (s := { s with heap := k, toks := s.toks + 1 }) hE fun k2 hE2 sb => ?_⟩
      have ze : ∀ c ∈ [z, TI, TO, i1, i2], c ≠ e := fun c hc q => by
        subst q
        simp only [List.mem_cons, List.not_mem_nil, or_false] at hc
        rcases hc with q | q | q | q | q
        · exact hz q
        · exact hI q
        · exact hO q
        · exact h1 q
        · exact h2 q
      have up : ∀ c o, c ≠ e → g.get? c = some o → k2.get? c = some o := fun c o ce q => (sb.2 c ce).trans (hk c o ce q)
      have hUe : g.objs.size ≠ e := by rw [hsz]; exact Nat.ne_of_gt (Nat.lt_succ_of_lt hel)
      have hTe : s.heap.objs.size ≠ e := Nat.ne_of_gt hel
      have new1 : ObjOk X.prog X.w (upd H s.heap.objs.size (.tup [x, y])) g s.heap.objs.size (.tup [x, y]) :=
        ⟨by show 2 ≤ sizeLine; decide, [u, u2], .cons ru (.cons ru2 .nil), ⟨_, hp1, rfl, _, rfl⟩⟩
      have I1 : Inv X pins σ (upd H s.heap.objs.size (.tup [x, y])) { s with heap := g, toks := s.toks } :=
        I.turnedNew (t' := s.toks) (ch := [z, TI, TO, i1, i2]) (fun c o hb q => hkp c o (fun q' => hb (by simp [q'])) (fun q' => hb (by simp [q'])) (fun q' => hb (by simp [q'])) (fun q' => hb (by simp [q'])) q) (fun c hcm => hf c (List.mem_cons_of_mem _ hcm)) (Nat.le_refl _) new1
      have lt : ∀ c ∈ [e, z, TI, TO, i1, i2], c < s.heap.objs.size := fun c hcm => by
        obtain ⟨⟨f0, f, hz', _⟩, hTI, ⟨x', y', hTO⟩, ⟨o1, e1, _, d1⟩, ⟨o2, e2, _, d2⟩⟩ := zst
        simp only [List.mem_cons, List.not_mem_nil, or_false] at hcm
        rcases hcm with rfl | rfl | rfl | rfl | rfl | rfl
        · exact hel
        · exact Heap.lt_size hz'
        · exact Heap.lt_size hTI
        · exact Heap.lt_size hTO
        · exact Heap.lt_size e1
        · exact Heap.lt_size e2
      have hf1 : ∀ c ∈ [e], FpOk X pins (upd H s.heap.objs.size (.tup [x, y])) c := fun c hcm => by
        obtain rfl : c = e := by simpa using hcm
        obtain ⟨f0, f1⟩ := hf c (by simp)
        exact ⟨by rw [upd_ne (Nat.ne_of_lt hel)]; exact f0, f1⟩
      have hU2 : k2.get? g.objs.size = some { cls := .type "tuple", data := .seq #[.int i s.toks, .ref s.heap.objs.size] } := (sb.2 _ hUe).trans hU
      have new2 : ObjOk X.prog X.w (upd (upd H s.heap.objs.size (.tup [x, y])) g.objs.size (.tup [.int (i : Nat), .ref s.heap.objs.size])) k2 g.objs.size (.tup [.int (i : Nat), .ref s.heap.objs.size]) :=
        ⟨by show 2 ≤ sizeLine; decide, [.int i s.toks, .ref s.heap.objs.size], .cons ⟨_, rfl⟩ (.cons rfl .nil), ⟨_, hU2, rfl, _, rfl⟩⟩
      have I2 : Inv X pins σ (upd (upd H s.heap.objs.size (.tup [x, y])) g.objs.size (.tup [.int (i : Nat), .ref s.heap.objs.size])) { s with heap := k2, toks := s.toks + 1 } :=
        I1.turnedNew (t' := s.toks + 1) (ch := [e]) (fun c o hb q => up c o (fun z => hb (by simp [z])) q) hf1 (Nat.le_refl _) new2
      refine ⟨.ref g.objs.size, _, I2, rfl, ⟨_, _, x, y, rfl, I.hok.fresh (Nat.le_refl _), I.hok.fresh (by rw [hsz]; exact Nat.le_succ _), by rw [hsz]; exact Nat.ne_of_gt (Nat.lt_succ_self _), rfl, fun l hl => by rw [I.list_inj hl hqx]; exact hx, fun l hl => by rw [I.list_inj hl hqy]; exact hy⟩, ⟨⟨.ref s.heap.objs.size, ?_⟩, ?_⟩, fun c hcm => ?_⟩
      · have e1 : ((i + 1 : Nat) : Int) = (i : Int) + 1 := by omega
        rw [e1]; exact hE2
      · obtain ⟨⟨f0, f, q1, q2⟩, q3, ⟨x', y', q4⟩, q5, q6⟩ := zs2
        exact ⟨⟨f0, f, up _ _ (ze z (by simp)) q1, q2⟩, up _ _ (ze TI (by simp)) q3, ⟨x', y', up _ _ (ze TO (by simp)) q4⟩, q5.at fun o q => up _ o (ze i1 (by simp)) q, q6.at fun o q => up _ o (ze i2 (by simp)) q⟩
      · have hlt := lt c hcm
        rw [upd_ne (by rw [hsz]; exact Nat.ne_of_lt (Nat.lt_succ_of_lt hlt)), upd_ne (Nat.ne_of_lt hlt)]
        exact (hf c hcm).1
  done := by
    intro X hP hw hK hc i pins s σ H E I hf st hg
    subst hP hw hK
    obtain ⟨⟨old, he⟩, zst⟩ := st
    obtain ⟨xs, ys, hqx, hqy, hend⟩ := hg
    obtain ⟨its, rv, p, _⟩ := I.list hqx
    obtain ⟨its2, rv2, p2, _⟩ := I.list hqy
    have l1 := rv.length
    have l2 := rv2.length
    have hn : its.toArray[i]? = none ∨ its2.toArray[i]? = none := hend.imp (fun q => by simp; omega) fun q => by simp; omega
    have hT : s.TypeIs (.ref e) "enumerate" := ⟨_, he, rfl⟩
    have hh : X.A.in1.handled = none := I.ok.hd hc
    unfold pyNext
    refine wpAny_bind (wpAny_attempt (wpAny_callSpecial?_slot (name := Str.ofString "__next__") hT F.slot_enumerate_next (wpAny_call_entry F.slot_enumerate_next hT F.entry_enumerate_next ?_ (F.args_enumerate_next_1 _))))
    show wpAny _ _ (field (.ref e) 2 >>= fun _ => _) _ _ _
    refine wpAny_bind (wpAny_field (x := .ref z) he rfl rfl ?_)
    refine wpAny_bind (zs_end hh D zst p.isList p2.isList hn fun g x hk hx => ?_)
    obtain ⟨o, ho, hcl⟩ := hx
    refine wpAny_bind (wpAny_isInstance (T := "StopIteration") (b := true) ⟨o, ho, hcl⟩ isSubtype_stop ?_)
    exact wpAny_pure ⟨rfl, I.turnedL (t' := s.toks) (ch := [e, z, TI, TO, i1, i2]) (fun c o hb q => hk c o (fun q' => hb (by simp [q'])) (fun q' => hb (by simp [q'])) (fun q' => hb (by simp [q'])) (fun q' => hb (by simp [q'])) q) hf⟩
  self := fun A i s Q E st h => let ⟨⟨_, he⟩, _⟩ := st; wpAny_pyIter_enum he h
end
end MM

set_option linter.all false
set_option maxRecDepth 100000
namespace MM
open PySem PySem.Spec PyProof.Rows L2
/-- enumerate of an iterator that is a zip -/
theorem meets_enum_zip (z TI TO : Addr) : Meets (Builtin.«enumerate.__new__» ⟨[.type "enumerate", .ref z], []⟩) (fun _ R s => IsZip s.heap z TI TO .none ∧
    R (.ok (.ret (.ref s.heap.objs.size))) { s with heap := s.heap.push { cls := .type "enumerate", data := .fields #[.none, .bool false, .ref z, rawInt 0, .none, .none] } }) :=
  .of_wp fun prog w A R s h => by
    obtain ⟨hp, g, d, tk, os⟩ := s
    obtain ⟨hz, h⟩ := h
    have hsub := sub_enumerate
    have it : ∀ {A' : Around} {E : Value → Shared → Prop} {Q : Value → Shared → Prop}, Q (.ref z) ⟨hp, g, d, tk, os⟩ → wpAny (model prog w) A' (pyIter (.ref z)) Q E ⟨hp, g, d, tk, os⟩ := fun q => wpAny_pyIter_zip (s := ⟨hp, g, d, tk, os⟩) hz q
    wp_walk using it
    refine wpAny_stack_any fun st => wpAny_pure ?_
    split
    · rename_i c _ _ _ _ _
      cases (c == Value.type "enumerate")
      all_goals
        wp_walk using it
        exact ⟨_, rfl, h⟩
    · wp_walk using it
      exact ⟨_, rfl, h⟩
section
variable {prog : Program} {w : World} {A : Around} {E : Value → Shared → Prop} {s : Shared}
theorem call_enum_zip {z TI TO : Addr} {Q : Value → Shared → Prop} (hz : IsZip s.heap z TI TO .none) (h : ∀ g, IsEnum g s.heap.objs.size z 0 .none → (∀ b o, s.heap.get? b = some o → g.get? b = some o) → Q (.ref s.heap.objs.size) { s with heap := g }) :
    wpAny (model prog w) A (call (.type "enumerate") [.ref z]) Q E s := by
  refine callType_new F.called_enumerate (by decide) (F.typeCall_enumerate_1 _) (F.newCall_enumerate_1 _) (fun obj => F.args_object_init_2 obj _) F.entry_enumerate_new (meets_enum_zip z TI TO) ⟨hz, ?_⟩
  have e1 : IsEnum (s.heap.push { cls := .type "enumerate", data := .fields #[.none, .bool false, .ref z, rawInt 0, .none, .none] }) s.heap.objs.size z 0 .none := Heap.get?_push_size _ rfl
  exact ⟨⟨_, e1, rfl⟩, h _ e1 fun b o x => Heap.get?_push_of_some _ x⟩
end
def iEZ (K : PySem.W.Frag) (ta : TA) : TI := fun σ H R => ta σ H fun vs H1 => ∃ a b xs ys, vs = [.ref a, .ref b] ∧ SqL K H1 a xs ∧ SqL K H1 b ys ∧ R (ItEZ K a b) H1
theorem pi_ez {X : Cx} {e e2 : Expr} {ta : TA} {pe pz pos pos2 tpos : Pos} {elts : List Expr} {kk : Nat} (hm : X.mg "enumerate" = none) (hm2 : X.mg "zip" = none) (ha : PA X [e, e2] ta) (hg : Gl X "enumerate" := by rfl) (hg2 : Gl X "zip" := by rfl)
    (hs : starEach [e, e2] X.env = (false, eval e X.env) :: starEach [e2] X.env := by rfl) (hpl : (backTo pos2 (starEach [e2] X.env)).any (·.1) = false := by rfl)
    (hs1 : starEach [.Call (.Name "zip" pz) [e, e2] [] pos2] X.env = (false, eval (.Call (.Name "zip" pz) [e, e2] [] pos2) X.env) :: starEach [] X.env := by rfl) :
    PI X (.Tuple elts kk tpos) (.Call (.Name "enumerate" pe) [.Call (.Name "zip" pz) [e, e2] [] pos2] [] pos) (iEZ X.K ta) := by
  refine ⟨fun pins s σ H R I h => ?_⟩
  refine Call_ (ld_blt I hg hm boot_enumerate (PyProof.Rows.callWith_type1 ?_ hs1 rfl))
  rw [hs1]
  show wpAny _ _ (spliced ((false, eval _ X.env) :: backTo pos (starEach [] X.env))) _ _ s
  refine Calls.spliced_cons ?_
  refine Call_ (ld_blt I hg2 hm2 PyProof.Rows.boot_zip (PyProof.Rows.callWith_type1 (thn (ha.run pos2 pins s σ H _ I h) fun us s1 ⟨vs, H1, I1, r1, q1⟩ => ?_) hs hpl))
  obtain ⟨a, b, xs, ys, ex, hqx, hqy, q⟩ := q1
  subst ex
  cases r1 with
  | cons r rr =>
    cases rr with
    | cons r' rr =>
      cases rr
      cases r
      cases r'
      obtain ⟨its, rv, p1, _⟩ := I1.list hqx
      obtain ⟨its2, rv2, p2, _⟩ := I1.list hqy
      have la : a < s1.heap.objs.size := p1.lt
      have lb : b < s1.heap.objs.size := p2.lt
      refine call_zip_2 p1.isList p2.isList fun h' hz hTI hTO h1 h2 hsz hk => ?_
      refine Calls.spliced_nil ?_
      refine call_enum_zip (s := { s1 with heap := h' }) hz fun g he hkg => wpAny_pyIter_enum he ?_
      have I2 : Inv X pins σ H1 { s1 with heap := g } := I1.kept (t' := s1.toks) fun b o x => hkg b o (hk b o x)
      have ne : ∀ k, k < 5 → (h'.objs.size : Nat) ≠ s1.heap.objs.size + k := fun k hk5 => by rw [hsz]; omega
      refine ⟨h'.objs.size, [h'.objs.size, s1.heap.objs.size + 4, s1.heap.objs.size + 2, s1.heap.objs.size + 3, s1.heap.objs.size, s1.heap.objs.size + 1], _, _, H1, rfl, I2, turn_ez (PySem.W.ktu_apart s1.heap.objs.size a b la lb) (ne 4 (by omega)) (ne 2 (by omega)) (ne 3 (by omega)) (ne 0 (by omega)) (ne 1 (by omega)),
        ⟨⟨.none, he⟩, ⟨.none, false, hkg _ _ hz, .inl rfl⟩, hkg _ _ hTI, ⟨_, _, hkg _ _ hTO⟩, h1.at fun o x => hkg _ o x, h2.at fun o x => hkg _ o x⟩, fun c hcm => ?_, q⟩
      have hle : s1.heap.objs.size ≤ c := by
        simp only [List.mem_cons, List.not_mem_nil, or_false] at hcm
        rcases hcm with z | z | z | z | z | z
        · rw [z, hsz]; exact Nat.le_add_right _ _
        · rw [z]; exact Nat.le_add_right _ _
        · rw [z]; exact Nat.le_add_right _ _
        · rw [z]; exact Nat.le_add_right _ _
        · rw [z]; exact Nat.le_refl _
        · rw [z]; exact Nat.le_add_right _ _
      exact I1.fpOk hle (I1.hok.fresh hle)
end MM

set_option linter.all false
set_option maxRecDepth 100000
namespace MM
open PySem PySem.Spec PyProof.Rows L2
/-! ### t[::-1], a tuple, a text -/
section
variable {prog : Program} {w : World} {A : Around} {E : Value → Shared → Prop} {s : Shared}
theorem applied_back {sl : Addr} {n : Nat} {t : Tok} {Q : Int × Int × Nat → Shared → Prop} (hs : s.heap.IsSliceOf sl .none .none (.int (-1) t)) (h : Q ((n : Int) - 1, -1, n) s) : wpAny (model prog w) A (Builtin.Slice.sliceApplied (.ref sl) (pure (n : Int))) Q E s := by
  obtain ⟨os, hos, hcs, hds⟩ := id hs
  unfold Builtin.Slice.sliceApplied Builtin.Slice.sliceFields
  refine wpAny_bind (wpAny_bind (wpAny_field hos hds (x := .none) rfl (wpAny_bind (wpAny_field hos hds (x := .none) rfl (wpAny_bind (wpAny_field hos hds (x := .int (-1) t) rfl (wpAny_pure ?_)))))))
  refine wpAny_bind (HT.slicePart_ (.int (-1) t) ?_)
  show wpAny _ _ (if ((-1 : Int) == 0) = true then _ else _) _ _ s
  rw [if_neg (by decide)]
  refine wpAny_bind (HT.slicePart_ .none (wpAny_bind (HT.slicePart_ .none (wpAny_bind (wpAny_pure ?_)))))
  have e1 : Builtin.Slice.sliceAdjust none none (-1) (n : Int) = ((n : Int) - 1, -1) := rfl
  show wpAny _ _ (match Builtin.Slice.sliceAdjust none none (-1) (n : Int) with | (lo, hi) => pure (lo, (-1 : Int), Builtin.Slice.slicePlaces lo hi (-1))) _ _ s
  rw [e1]
  have e2 : Builtin.Slice.slicePlaces ((n : Int) - 1) (-1) (-1) = n := by
    unfold Builtin.Slice.slicePlaces
    have a : ¬ ((-1 : Int) > 0) := by omega
    simp only [a, if_false]
    rw [show (- -1 : Int) = 1 by decide, Int.ediv_one]
    split <;> omega
  show wpAny _ _ (pure ((n : Int) - 1, (-1 : Int), Builtin.Slice.slicePlaces ((n : Int) - 1) (-1) (-1))) _ _ s
  rw [e2]
  exact wpAny_pure h
theorem fm_congr {α β : Type} {f g : α → Option β} : ∀ {l : List α}, (∀ m ∈ l, f m = g m) → l.filterMap f = l.filterMap g
  | [], _ => rfl
  | a :: l, h => by
    rw [List.filterMap_cons, List.filterMap_cons, h a (by simp), fm_congr fun m hm => h m (by simp [hm])]
theorem pick_back (xs : Array Value) : ((List.range xs.size).filterMap fun (m : Nat) => xs[((xs.size : Int) - 1 + (m : Int) * -1).toNat]?).toArray = xs.toList.reverse.toArray := by
  have e : ((List.range xs.size).filterMap fun (m : Nat) => xs[((xs.size : Int) - 1 + (m : Int) * -1).toNat]?) = ((List.range xs.size).map fun m => xs.size - 1 - m).filterMap (xs[·]?) := by
    rw [List.filterMap_map]
    refine fm_congr fun m hm => ?_
    have := List.mem_range.mp hm
    show xs[((xs.size : Int) - 1 + (m : Int) * -1).toNat]? = xs[xs.size - 1 - m]?
    rw [show ((xs.size : Int) - 1 + (m : Int) * -1).toNat = xs.size - 1 - m by omega]
  rw [e, PySem.W.krv_range, List.filterMap_reverse, PySem.W.krv_all]
theorem tuple_back {t sl : Addr} {items : Array Value} {u : Tok} {Q : Value → Shared → Prop} (ht : IsTup s.heap t items) (hs : s.heap.IsSliceOf sl .none .none (.int (-1) u))
    (h : Q (.ref s.heap.objs.size) { s with heap := s.heap.push { cls := .type "tuple", data := .seq items.toList.reverse.toArray } }) (hsz : items.size ≤ sizeLine) : wpAny (model prog w) A (getItem (.ref t) (.ref sl)) Q E s := by
  have hok : sizeOk (.seq items.toList.reverse.toArray) := by
    show items.toList.reverse.toArray.size ≤ sizeLine
    simpa using hsz
  obtain ⟨os, hos, hcs, hds⟩ := id hs
  have hT : s.TypeIs (.ref sl) "slice" := ⟨os, hos, hcs⟩
  unfold getItem
  try with_reducible refine wpAny_holding ?_
  first | refine wpAny_bind (wpAny_pure ?_) | skip
  refine wpAny_bind (wpAny_sequenceKey ht.typeIs (by decide) ?_)
  refine wpAny_bind (wpAny_callSpecial?_slot (name := Str.ofString "__getitem__") ht.typeIs PyProof.Rows.slot_tuple_getitem (wpAny_call_entry PyProof.Rows.slot_tuple_getitem ht.typeIs entry_tuple_getitem ?_ (args_tuple_getitem _ _)))
  show wpAny _ _ (Builtin.Tuple.tupleItemsOf (.ref t) >>= fun _ => _) _ _ s
  refine wpAny_bind (tupleItemsOf_ ht ?_)
  refine wpAny_bind (wpAny_typeOf hT ?_)
  rw [if_pos (by decide)]
  refine wpAny_bind (applied_back hs ?_)
  show wpAny _ _ (if (((items.size : Int) - 1 == 0 && (-1 : Int) == 1 && items.size == items.size) = true) then _ else _) _ _ s
  rw [if_neg (by rw [show ((-1 : Int) == 1) = false from rfl, Bool.and_false, Bool.false_and]; exact Bool.false_ne_true), pick_back]
  first
    | exact wpAny_bind (m := Builtin.Tuple.tupleExact _) (wpAny_newObj_type (wpAny_pure ⟨_, rfl, wpAny_pure h⟩) hok)
    | exact wpAny_bind (m := Builtin.Tuple.tupleExact _) (wpAny_newObj_type (wpAny_bind (wpAny_pure (wpAny_pure ⟨_, rfl, wpAny_pure h⟩))) hok)
    | exact wpAny_bind (wpAny_bind (m := Builtin.Tuple.tupleExact _) (wpAny_newObj_type (wpAny_pure (wpAny_pure ⟨_, rfl, wpAny_pure h⟩)) hok))
    | exact wpAny_bind (wpAny_bind (m := Builtin.Tuple.tupleExact _) (wpAny_newObj_type (wpAny_pure ⟨_, rfl, wpAny_pure h⟩) hok))
theorem text_pick (x : Str) (t : Tok) (u : Tok) : sliceMade x t none none (some (-1, u)) = .str ⟨x.cps.toList.reverse.toArray⟩ := by
  unfold sliceMade slicePicked
  rw [if_neg (by
    show ¬ (((-1 : Int) == 1 && _) = true)
    rw [show ((-1 : Int) == 1) = false from rfl, Bool.false_and]; exact Bool.false_ne_true)]
  have e : Builtin.Str.strSliceIndices none none (-1) x.length = (List.range x.length).map fun k => x.length - 1 - k := by
    show sliceRange ((x.length : Int) - 1) (-1) (-1) = _
    exact PySem.W.krv_sliceRange x.length
  show Made.str ⟨((Builtin.Str.strSliceIndices none none (-1) x.length).filterMap (x.cps[·]?)).toArray⟩ = _
  rw [e, PySem.W.krv_range, List.filterMap_reverse]
  have : (List.range x.length).filterMap (x.cps[·]?) = x.cps.toList := PySem.W.krv_all x.cps
  rw [this]
end
def tRevS (K : PySem.W.Frag) (te : TE) : TE := fun σ H Q => te σ H fun x H1 => (∃ z, x = .str z ∧ z.length ≤ sizeLine ∧ Q (.str ⟨z.cps.toList.reverse.toArray⟩) H1) ∨ ∃ a xs, x = .ref a ∧ SqT K H1 a xs ∧ ∀ p, H1 p = none → Q (.ref p) (upd H1 p (.tup xs.reverse))
theorem pe_revS {X : Cx} {e : Expr} {te : TE} {k : Nat} {p1 p2 p3 pos : Pos} (he : PE X e te) : PE X (.Subscript e (.Slice none none (some (.UnaryOp .USub (.Constant (.int 1) k p1) p2)) p3) pos) (tRevS X.K te) := by
  refine ⟨fun pins s σ H Q I h => ?_⟩
  refine Subscript_ (thn (he.run pins s σ H _ I h) fun v s1 ⟨x, H1, I1, r1, q1⟩ => ?_)
  have hst : PO X (some (.UnaryOp .USub (.Constant (.int 1) k p1) p2)) (tPart (tUn (rU fun i => .int (-i)) (tC (.int 1)))) := po_some (pe_un un_neg pe_int)
  refine wpAny_Slice (thn (po_none.run pins s1 σ H1 (fun o G => o = none ∧ G = H1) I1 ⟨rfl, rfl⟩) fun vl s2 ⟨l, H2, I2, pl, el, e2⟩ => ?_)
  subst el e2
  refine thn (po_none.run pins s2 σ H2 (fun o G => o = none ∧ G = H2) I2 ⟨rfl, rfl⟩) fun vu s3 ⟨u, H3, I3, pu, eu, e3⟩ => ?_
  subst eu e3
  refine thn (hst.run pins s3 σ H3 (fun o G => o = some (-1) ∧ G = H3) I3 ⟨1, rfl, -1, rfl, rfl, rfl⟩) fun vs s4 ⟨o, H4, I4, ps, eo, e4⟩ => ?_
  subst eo e4
  have I5 : Inv X pins σ H4 { s4 with heap := s4.heap.push { cls := .type "slice", data := .fields #[vl, vu, vs] } } := I4.kept (t' := s4.toks) fun b ob q => Heap.get?_push_of_some _ q
  cases pl
  cases pu
  cases ps with
  | int _ tk =>
    rcases q1 with ⟨z, ex, hz, q⟩ | ⟨a, xs, ex, hx, q⟩
    · subst ex
      obtain ⟨tz, rfl⟩ := r1
      refine tail_any (ops := [.str z tz, .ref s4.heap.objs.size]) (typeIs_str _ z tz) slot_str_getitem.lookup ?_ (by with_unfolding_all rfl)
      refine wpAny_getItem_str_slice (l := none) (u := none) (st := some (-1, tk)) ⟨_, Heap.get?_push_size _ rfl, rfl, rfl⟩ rfl ?_
      rw [text_pick]
      refine ⟨?_, .str ⟨z.cps.toList.reverse.toArray⟩, H4, I5.tok _, ⟨_, rfl⟩, q⟩
      show z.cps.toList.reverse.toArray.size ≤ sizeLine
      have : z.cps.size ≤ sizeLine := hz
      simpa using this
    · subst ex
      cases r1
      obtain ⟨its, r, ht, hz⟩ := I5.tuple hx
      have hlen := r.length
      refine tail_any (ops := [.ref a, .ref s4.heap.objs.size]) (T := "tuple") ht.typeIs (PyProof.Rows.slot_tuple_getitem.lookup) ?_ (by with_unfolding_all rfl)
      refine tuple_back ht (Heap.IsSliceOf.new _ .none .none (.int (-1) tk)) ?_ (by rw [List.size_toArray]; omega)
      refine ⟨.ref _, _, I5.laid (t' := s4.toks) (o := .tup xs.reverse) (fun b ob q => Heap.get?_push_of_some _ q) (Nat.le_refl _) ?_, rfl, q _ (I5.hok.fresh (Nat.le_refl _))⟩
      exact ⟨by rw [List.length_reverse]; exact hz, _, r.reverse, ⟨_, Heap.get?_push_size _ rfl, rfl, _, rfl⟩⟩
end MM

set_option linter.all false
set_option maxRecDepth 100000
namespace MM
open PySem L2

section
variable {X : Cx} {cl : Str → Option Addr} {a b e kx vx tg iter : Expr} {ifs : List Expr} {scope : Scope} {own : List (Str × Nat)} {pos pos2 : Pos} {m ma mb ek ev : ME} {mi : MA} {g : D → DL → Option DL} {t : MT} {Ts : List Nat}
/-! ### t[::-1] -/
def eRevS (m : ME) : ME := fun δ ah => (m δ ah).bind fun p => match p.1 with
  | .str z => if z.length ≤ 100000 then some (.str ⟨z.cps.toList.reverse.toArray⟩, p.2) else none
  | .tup l => some (.tup l.reverse, p.2)
  | _ => none
theorem re_revS {k : Nat} {p1 p2 p3 : Pos} (h : RE X cl a m) : RE X cl (.Subscript a (.Slice none none (some (.UnaryOp .USub (.Constant (.int 1) k p1) p2)) p3) pos) (eRevS m) := fun δ s σ d ah' Q h' ok sv q => by
  obtain ⟨⟨z, za⟩, h1, h2⟩ := Option.bind_eq_some_iff.mp h'
  refine WE.of (pe_revS peW) (h δ s σ _ _ _ h1 ok sv fun s1 v l1 e1 d1 => ?_)
  cases z with
  | str x =>
    simp only at h2
    split at h2
    · rename_i hz
      obtain ⟨rfl, rfl⟩ := Prod.mk.inj (Option.some.inj h2)
      cases d1
      exact .inl ⟨x, rfl, Nat.le_trans hz line100k, q s1 _ l1 e1 (.str _)⟩
    · cases h2
  | tup l =>
    obtain ⟨rfl, rfl⟩ := Prod.mk.inj (Option.some.inj h2)
    obtain ⟨a, vs, rfl, hr, hs⟩ := tup_view d1
    refine .inr ⟨a, vs, rfl, hr, fun p hp => ?_⟩
    have l2 := le_new l1.ok hp (.tup vs.reverse)
    exact q (s1.up p (.tup vs.reverse)) _ (l1.trans l2) e1 (.tup (.inl upd_same) (fun a => (l1.ok.nav hp) a) (hs.reverse.le l2))
  | _ => cases h2
/-! ### enumerate(zip(a list, a list)) -/
def gLs : D → Option (List D)
  | .lst l => some l
  | .scr l => some l
  | _ => none
theorem gLs_src {G : Gx} {s : S} {d : D} {v : V} {l : List D} (h : gLs d = some l) (x : DV G s d v) : ∃ a vs, v = .ref a ∧ DVs G s l vs ∧ ∀ s2, Gr s s2 → SqL G.K s2.H a vs := by
  cases d with
  | lst m => cases h; exact lst_src (.inl x)
  | scr m => cases h; exact lst_src (.inr x)
  | _ => cases h
def iEZM (a b : ME) : MA := fun δ ah => (a δ ah).bind fun p => (b δ p.2).bind fun q => (gLs p.1).bind fun l => (gLs q.1).map fun m => (enumD 0 (zipD l m), q.2)
theorem ri_ez {elts : List Expr} {kk : Nat} {tpos pe pz : Pos} (hm : X.mg "enumerate" = none) (hm2 : X.mg "zip" = none) (h : RE X cl a ma) (hb : RE X cl b mb) (hg : Gl X "enumerate" := by rfl) (hg2 : Gl X "zip" := by rfl)
    (hs : starEach [a, b] X.env = (false, eval a X.env) :: starEach [b] X.env := by rfl) (hs2 : starEach [b] X.env = (false, eval b X.env) :: starEach [] X.env := by rfl) (hpl : (backTo pos2 (starEach [b] X.env)).any (·.1) = false := by rfl)
    (hs1 : starEach [.Call (.Name "zip" pz) [a, b] [] pos2] X.env = (false, eval (.Call (.Name "zip" pz) [a, b] [] pos2) X.env) :: starEach [] X.env := by rfl) :
    RI X cl (.Tuple elts kk tpos) (.Call (.Name "enumerate" pe) [.Call (.Name "zip" pz) [a, b] [] pos2] [] pos) (iEZM ma mb) := fun δ s σ ds ah' R h' ok sv q => by
  obtain ⟨⟨z, za⟩, h1, h2⟩ := Option.bind_eq_some_iff.mp h'
  obtain ⟨⟨y, ya⟩, h5, h6⟩ := Option.bind_eq_some_iff.mp h2
  obtain ⟨l, h7, h8⟩ := Option.bind_eq_some_iff.mp h6
  obtain ⟨m, h9, h10⟩ := Option.map_eq_some_iff.mp h8
  obtain ⟨rfl, rfl⟩ := Prod.mk.inj h10
  refine ⟨_, pi_ez hm hm2 (pa_cons peW (pa_cons peW pa_nil hs2) hs) hg hg2 hs hpl hs1, h δ s σ _ _ _ h1 ok sv fun s1 v l1 e1 d1 => ?_⟩
  refine hb δ s1 σ _ _ _ (by rw [e1]; exact h5) l1.ok (sv.le l1) fun s2 w l2 e2 d2 => ?_
  obtain ⟨u1, xs, rfl, k1, q1⟩ := gLs_src h7 (d1.le l2)
  obtain ⟨u2, ys, rfl, k2, q2⟩ := gLs_src h9 d2
  refine ⟨u1, u2, xs, ys, rfl, q1 s2 Gr.refl, q2 s2 Gr.refl, q s2 _ (l1.trans l2) e2 fun s3 g ok3 => ⟨fun i hi => ?_, ⟨xs, ys, q1 s3 g, q2 s3 g, ?_⟩, fun i d x H' hd hy => ?_⟩⟩
  · rw [enumD_len, zipD_len] at hi
    obtain ⟨x, hx⟩ := k1.some_at (i := i) (by omega)
    obtain ⟨y, hy⟩ := k2.some_at (i := i) (by omega)
    exact ⟨xs, ys, x, y, q1 s3 g, q2 s3 g, hx, hy⟩
  · rw [enumD_len, zipD_len, k1.len, k2.len]
    omega
  · obtain ⟨T, U, x', y', rfl, hT, hU, hne, eH, f1, f2⟩ := hy
    obtain ⟨d0, e0, rfl⟩ := enumD_at hd
    obtain ⟨d1, d2, e3, e4, rfl⟩ := zipD_at e0
    rw [Nat.zero_add]
    obtain ⟨l4, dv4⟩ := pair_yield ok3 hT rfl ((k1.at e3 (f1 xs (q1 s3 g))).mono g) ((k2.at e4 (f2 ys (q2 s3 g))).mono g)
    have hU' : ({ s3 with H := upd s3.H T (.tup [x', y']) } : S).H U = none := by
      show upd s3.H T _ U = none
      rw [upd_ne hne]
      exact hU
    obtain ⟨l5, dv5⟩ := pair_yield l4.ok hU' eH (.int (i : Nat)) dv4
    exact ⟨l4.trans l5, dv5⟩
/-! ### {k: v for target in iter if ..} -/
def dcGo (n : Nat) (g : D → DL → Option DL) (t : MT) (ek ev : ME) (δ : DL) : List D → AH → Option AH
  | [] => fun ah => some ah
  | d :: r => fun ah => (g d δ).bind fun δ1 => (t δ1 ah).bind fun p => if p.1 = true then (ek δ1 p.2).bind fun x => (keyOf x.1).bind fun k => (ev δ1 x.2).bind fun y => (dicAt y.2 n).bind fun l =>
      if l.length < 100000 then dcGo n g t ek ev δ r (y.2.set n (.dic (putD l k y.1))) else none
    else dcGo n g t ek ev δ r p.2
def eDComp (mi : MA) (g : D → DL → Option DL) (t : MT) (ek ev : ME) (vs : List Nat) : ME := fun δ ah => (mi δ ah).bind fun p => (dcGo p.2.length g t ek ev (wipeD δ vs) p.1 (p.2 ++ [.dic []])).map fun ah' => (.ptr p.2.length, ah')
theorem re_dcomp {vs : List Nat} (hv : own.map (·.2) = vs) (hc : X.calm = true) (hN : X.N.Nodup) (bk : BlkOk X.N X.env.scope scope own) (hi : RI X cl tg iter mi) (hg : ∀ s H C cl' fp, RG (BCx X scope s H C cl' fp) cl tg Ts g) (ht : ∀ s H C cl' fp, RTs (BCx X scope s H C cl' fp) cl ifs t)
    (hk : ∀ s H C cl' fp, RE (BCx X scope s H C cl' fp) cl kx ek) (he : ∀ s H C cl' fp, RE (BCx X scope s H C cl' fp) cl vx ev) (hsub : ∀ i ∈ Ts, i ∈ vs)
    (hs : ∀ x, foldedSetIterable iter X.env x = pure x := by intro _; rfl) : RE X cl (.DictComp kx vx [⟨tg, iter, ifs, 0⟩] scope pos) (eDComp mi g t ek ev vs) := fun δ s σ d ah' Q h ok sv q => by
  subst hv
  obtain ⟨⟨items, ah1⟩, h1, h2⟩ := Option.bind_eq_some_iff.mp h
  obtain ⟨ah2, h3, h4⟩ := Option.map_eq_some_iff.mp h2
  obtain ⟨rfl, rfl⟩ := Prod.mk.inj h4
  refine WE.of (t := tDc (wI X tg iter) (uG X scope tg) (uT X scope ifs) (uE X scope kx) (uE X scope vx) (own.map (·.2))) (pe_dc hc hN pi_any bk pg_u pts_u pe_u pe_u hs) ?_
  refine hi δ s σ items ah1 _ h1 ok sv fun s1 J l1 e1 drv Dl hD => ?_
  have la : Le (gx X cl) s1 (s1.add Dl (.dic []) (.dK [])) := le_add l1.ok hD ⟨[], upd_same, rfl, .nil⟩
  have hDn : (s1.add Dl (.dic []) (.dK [])).ι[ah1.length]? = some Dl := by
    show (s1.ι ++ [Dl])[ah1.length]? = some Dl
    rw [← e1, ← l1.ok.len]
    exact List.getElem?_concat_length
  refine ⟨fun i m H => ∃ s2, s2.H = H ∧ i + m = items.length ∧ Le (gx X cl) (s1.add Dl (.dic []) (.dK [])) s2 ∧ dcGo ah1.length g t ek ev (wipeD δ (own.map (·.2))) (items.drop i) s2.ah = some ah2,
    ⟨items.length, _, rfl, Nat.zero_add _, Le.refl la.ok, by rw [List.drop_zero]; show dcGo _ _ _ _ _ _ items (s1.ah ++ [.dic []]) = _; rw [e1]; exact h3⟩, fun i m H hW => ?_⟩
  obtain ⟨s2, rfl, him, l2, hgo⟩ := hW
  obtain ⟨d1, d2, d3⟩ := drv s2 (la.trans l2).gr l2.ok
  by_cases hi : i < items.length
  · refine .inr ⟨d1 i hi, fun H' => ∃ s2, s2.H = H' ∧ (i + 1) + (m - 1) = items.length ∧ Le (gx X cl) (s1.add Dl (.dic []) (.dK [])) s2 ∧ dcGo ah1.length g t ek ev (wipeD δ (own.map (·.2))) (items.drop (i + 1)) s2.ah = some ah2, fun H' hN => ⟨m - 1, by omega, hN⟩, fun x H' hy => ?_⟩
    obtain ⟨l3, dv3⟩ := d3 i items[i] x H' (List.getElem?_eq_getElem hi) hy
    rw [List.drop_eq_getElem_cons hi] at hgo
    obtain ⟨δ1, k1, k2⟩ := Option.bind_eq_some_iff.mp hgo
    obtain ⟨⟨b, ahb⟩, k3, k4⟩ := Option.bind_eq_some_iff.mp k2
    have sv3 : SV (gx X cl) { s2 with H := H' } (wipeD δ (own.map (·.2))) (L2.wipe σ (own.map (·.2))) := (((sv.le l1).le la).le (l2.trans l3)).wipe _
    intro sa Ha Ca cla fpa
    refine hg sa Ha Ca cla fpa items[i] x (wipeD δ (own.map (·.2))) δ1 { s2 with H := H' } (L2.wipe σ (own.map (·.2))) _ k1 l3.ok dv3 sv3 ?_
    intro σ2 sv4 hl4 hk4
    refine ⟨by rw [wipe_same hl4 hk4 hsub, wipe_wipe], ?_⟩
    intro sb Hb Cb clb fpb
    refine ht sb Hb Cb clb fpb δ1 { s2 with H := H' } σ2 b ahb _ k3 l3.ok sv4 fun s4 l4 e4 => ?_
    have l24 := l2.trans (l3.trans l4)
    cases b with
    | true =>
      rw [if_pos rfl]
      rw [if_pos rfl] at k4
      obtain ⟨⟨y, ahy⟩, k5, k6⟩ := Option.bind_eq_some_iff.mp k4
      obtain ⟨key, k7, k8⟩ := Option.bind_eq_some_iff.mp k6
      obtain ⟨⟨w, ahw⟩, k9, k10⟩ := Option.bind_eq_some_iff.mp k8
      obtain ⟨l, k11, k12⟩ := Option.bind_eq_some_iff.mp k10
      split at k12
      · rename_i hlen
        intro sc Hc Cc clc fpc
        refine hk sc Hc Cc clc fpc δ1 s4 σ2 y ahy _ (by rw [e4]; exact k5) l4.ok (sv4.le l4) fun s5 vk l5 e5 dv5 => ?_
        intro sd Hd Cd cld fpd
        refine he sd Hd Cd cld fpd δ1 s5 σ2 w ahw _ (by rw [e5]; exact k9) l5.ok ((sv4.le l4).le l5) fun s6 vv l6 e6 dv6 => ?_
        have l26 := l24.trans (l5.trans l6)
        have ea := l26.pre _ _ hDn
        have ei := dicAt_some k11
        rw [← show s6.ah = ahw from e6] at ei
        obtain ⟨kvs, hH, hkk, hd⟩ := l26.ok.obj _ _ _ ea ei
        obtain ⟨w1, w2⟩ := putD_v (k := key) dv6 hkk hd
        refine ⟨kvs, key, keyOf_v dv5 k7, hH, ?_, ?_⟩
        · rw [map_len hkk]
          exact Nat.lt_of_lt_of_le hlen line100k
        · have gp := gr_put ea ei (by intro q; cases q) (.dic (putD l key w)) (.dK (putK kvs key vv))
          have l7 : Le (gx X cl) s6 (s6.put ah1.length Dl (.dic (putD l key w)) (.dK (putK kvs key vv))) := le_put l26.ok ea ei (by intro q; cases q) ⟨_, upd_same, w1, w2.mono gp⟩
          exact ⟨_, rfl, by omega, l26.trans l7, by show dcGo _ _ _ _ _ _ _ (s6.ah.set _ _) = _; rw [show s6.ah = ahw from e6]; exact k12⟩
      · cases k12
    | false =>
      rw [if_neg Bool.false_ne_true]
      rw [if_neg Bool.false_ne_true] at k4
      exact ⟨s4, rfl, by omega, l24, by rw [e4]; exact k4⟩
  · have hi' : i = items.length := by omega
    subst hi'
    rw [List.drop_length] at hgo
    exact .inl ⟨d2, q s2 _ (l1.trans (la.trans l2)) (Option.some.inj hgo) (.ptr (l2.pre _ _ hDn))⟩
end
end MM

set_option linter.all false
set_option maxRecDepth 100000
namespace MM
open PySem L2

/-! ### a def and its mirror, for callers -/
def Good (P : Program) (w : World) (K : PySem.W.Frag) (mg : Str → Option Value) (base : Heap) (cl : Str → Option Addr) (k : Nat) (a : Addr) (mf : MF) (n : Nat) : Prop :=
  ∃ fd ps, FnOk P w K mg base CX0 k a fd ps (spM K cl mf n) ∧ Binds K fd ps [] ∧ PySem.W.keepIn K (.ref a) = true
section
variable {P : Program} {w : World} {K : PySem.W.Frag} {mg : Str → Option Value} {base : Heap}
theorem fnD_of {x qual : Str} {params : Arguments} {body : List Stmt} {scope : Scope} {f : Addr} {fd : FuncData} {N ps : List Str} {k : Nat} {cl : Str → Option Addr} {ms : MS} {n p : Nat} (F : FunD K x qual params body scope [] [] f fd) (sc : FnScope N ps scope) (hn : N.length = n) (hp : ps.length = p)
    (hb : ∀ (cdv : Value) (A : Around) (outer : List Env) (s : Shared) (H : Hp) (E : XK), Room k (A.deeper (PyProof.Rows.envOfC qual scope s.heap.objs.size f cdv)) → RSs (cxOf CX0 P w K mg base N qual scope f cdv A outer s H E).nox cl body ms) :
    FnOk P w K mg base CX0 (k + 1) f fd ps (spM K cl (mfn n p ms) p) := by
  subst hn hp
  refine F.ok sc (fun vs H Q E h => h.1) (fun cdv A outer s H vs Q E hr h => ?_)
  obtain ⟨hl, S, ds, d, ah', eH, h1, ok, dv, q⟩ := h
  subst eH
  unfold mfn at h1
  split at h1
  · rename_i hd
    obtain ⟨⟨o, ah2⟩, h2, h3⟩ := Option.bind_eq_some_iff.mp h1
    refine ⟨_, PSs.nox pssW, hb cdv A outer s S.H E hr _ S _ o ah2 _ h2 ok (sv_start dv hl) fun s1 l1 e1 => ?_⟩
    cases o with
    | rt d1 =>
      intro v dv1
      obtain ⟨s2, l2, e2, eh, d2⟩ := trim_step (d' := d) (ah' := ah') ok l1 dv1 (by rw [e1]; exact Option.some.inj h3)
      show Q v s1.H
      rw [← eh]
      exact q s2 v l2 e2 d2
    | nx δ1 =>
      intro σ' _
      obtain ⟨s2, l2, e2, eh, d2⟩ := trim_step (d := .non) (v := .non) (d' := d) (ah' := ah') ok l1 .non (by rw [e1]; exact Option.some.inj h3)
      show Q .non s1.H
      rw [← eh]
      exact q s2 _ l2 e2 d2
    | _ => cases h3
  · cases h1
theorem good_of {x qual : Str} {params : Arguments} {body : List Stmt} {scope : Scope} {f : Addr} {N ps : List Str} {k : Nat} {cl : Str → Option Addr} {ms : MS} {n p : Nat} (F : ∃ fd, FunD K x qual params body scope [] [] f fd) (sc : FnScope N ps scope) (hn : N.length = n) (hp : ps.length = p)
    (hbind : ∀ (kV doc pm : Value) (an : Option Addr) (cdv ct : Value) (us : List Value), us.length = ps.length → bindArgs (PySem.W.fnOf x qual params body scope .none kV doc pm an cdv ct) ⟨us, []⟩ = pure (ps.zip us))
    (hb : ∀ (cdv : Value) (A : Around) (outer : List Env) (s : Shared) (H : Hp) (E : XK), Room k (A.deeper (PyProof.Rows.envOfC qual scope s.heap.objs.size f cdv)) → RSs (cxOf CX0 P w K mg base N qual scope f cdv A outer s H E).nox cl body ms) :
    Good P w K mg base cl (k + 1) f (mfn n p ms) p := by
  obtain ⟨fd, F⟩ := F
  exact ⟨fd, ps, fnD_of F sc hn hp hb, F.bindsN hbind, F.kp⟩
/-- the law's call -/
theorem sp_start {cl : Str → Option Addr} {mf : MF} {H : Hp} {a : Addr} {ns : List Int} {E : XK} (hm : ∃ ah', mf [.scr (ns.map .int)] [] = some (.bl true, ah')) (hS : SqL K H a (ns.map V.int)) : spM K cl mf 1 [.ref a] H (fun v _ => v = .bl true) E := by
  obtain ⟨ah', e⟩ := hm
  have nav : ¬ av ⟨fun _ => False, [], [], H⟩ a := by
    rintro (⟨n, o, h1, h2, h3⟩ | h)
    · cases h1
    · exact h
  have dvi : DVs ⟨K, cl⟩ ⟨fun _ => False, [], [], H⟩ (ns.map .int) (ns.map V.int) := by
    clear e hS
    induction ns with
    | nil => exact .nil
    | cons i r ih => exact .cons (.int i) ih
  have ok0 : Ok ⟨K, cl⟩ ⟨fun _ => False, [], [], H⟩ := { len := rfl, inj := (fun i j a h => by cases h), ne := (fun i a h => by cases h), nb := (fun a h => False.elim h), dj := (fun i a h => by cases h), obj := (fun i a o h => by cases h) }
  refine ⟨rfl, ⟨fun _ => False, [], [], H⟩, [.scr (ns.map .int)], .bl true, ah', rfl, e, ok0, .cons ?_ .nil, fun s' v l e1 d => by cases d; rfl⟩
  rcases hS with h | h
  · exact .scr h nav dvi
  · exact .scrK h dvi
end
section
variable {X : Cx} {cl : Str → Option Addr} {c e o lo hi tg iter : Expr} {es : List Expr} {pos : Pos} {m m' : ME} {ms : MA} {ml ml' : MA}
theorem re_callG {x : Str} {p : Pos} {a : Addr} {mf : MF} {k n : Nat} (G : Good X.prog X.w X.K X.mg X.base cl k a mf n) (hr : Room k X.A) (hm : X.mg x = some (.ref a)) (ha : RA X cl (e :: es) ms) (hl : ∀ δ ah p, ms δ ah = some p → p.1.length = n) (hk : (e :: es).length = n := by rfl) (hg : Gl X x := by rfl)
    (hdb : (x == ("__debug__" : Str)) = false := by decide) (he : starEach (e :: es) X.env = (false, eval e X.env) :: starEach es X.env := by rfl) (hpl : (backTo pos (starEach es X.env)).any (·.1) = false := by rfl) : RE X cl (.Call (.Name x p) (e :: es) [] pos) (eCall mf ms) := by
  obtain ⟨fd, ps, F, b, kp⟩ := G
  exact re_call (pe_call F hr hg hm kp b .nil pass0 paW hdb he hpl) hk ha hl
theorem methT {k n : Nat} {c m : Str} {C f : Addr} {mf : MF} (hc : cl c = some C) (hC : Cls X.K C) (hM : Meth X.K C m f) (G : Good X.prog X.w X.K X.mg X.base cl k f mf n) : ∀ c' mf', ([(c, mf)] : List (Str × MF)).lookup c' = some mf' → MethOk X cl k m c' mf' n := fun c' mf' h => by
  rw [List.lookup_cons] at h
  split at h
  · rename_i e
    cases h
    have : c' = c := eq_of_beq e
    subst this
    obtain ⟨fd, ps, F, b, kp⟩ := G
    exact ⟨C, f, fd, ps, hc, hC, hM, F, b⟩
  · cases h
theorem re_makeG {x : Str} {p : Pos} {C f : Addr} {mf : MF} {k n : Nat} (hc : cl x = some C) (M : Mk X.K C f) (G : Good X.prog X.w X.K X.mg X.base cl k f mf (n + 1)) (hr : Room (k + 1) X.A) (hm : X.mg x = some (.ref C)) (ha : RA X cl (e :: es) ms) (hl : ∀ δ ah p, ms δ ah = some p → p.1.length = n)
    (hg : Gl X x := by rfl) (hdb : (x == ("__debug__" : Str)) = false := by decide) (he : starEach (e :: es) X.env = (false, eval e X.env) :: starEach es X.env := by rfl) (hpl : (backTo pos (starEach es X.env)).any (·.1) = false := by rfl) : RE X cl (.Call (.Name x p) (e :: es) [] pos) (eMake x mf ms) := by
  obtain ⟨fd, ps, F, b, kp⟩ := G
  exact re_make hc (pe_make M F hr hg hm b .nil pass0 paW hdb he hpl) ha hl
/-! ### one mirror or the other -/
def orE (a b : ME) : ME := fun δ ah => match a δ ah with | some r => some r | none => b δ ah
theorem re_orE (h1 : RE X cl e m) (h2 : RE X cl e m') : RE X cl e (orE m m') := fun δ s σ d ah' Q h ok sv q => by
  unfold orE at h
  split at h
  · rename_i r e1
    cases h
    exact h1 δ s σ d ah' Q e1 ok sv q
  · exact h2 δ s σ d ah' Q h ok sv q
def orA (a b : MA) : MA := fun δ ah => match a δ ah with | some r => some r | none => b δ ah
theorem ri_orA (h1 : RI X cl tg iter ml) (h2 : RI X cl tg iter ml') : RI X cl tg iter (orA ml ml') := fun δ s σ ds ah' R h ok sv q => by
  unfold orA at h
  split at h
  · rename_i r e1
    cases h
    exact h1 δ s σ ds ah' R e1 ok sv q
  · exact h2 δ s σ ds ah' R h ok sv q
/-- a[lo:hi], whatever a is -/
def eSl (a : ME) (lo hi : MO) : ME := orE (eSlice a lo hi) (eFrz (fSlice a lo hi))
theorem re_sl {lo hi : Option Expr} {mlo mhi : MO} {p2 : Pos} (ha : RE X cl e m) (hl : ROp X cl lo mlo) (hh : ROp X cl hi mhi) : RE X cl (.Subscript e (.Slice lo hi none p2) pos) (eSl m mlo mhi) := re_orE (re_slice ha hl hh) (re_frz (rf_slice ha hl hh))
def eRv (a : ME) : ME := orE (eRevS a) (eFrz (fRev a))
theorem re_rv {k : Nat} {p1 p2 p3 : Pos} (h : RE X cl e m) : RE X cl (.Subscript e (.Slice none none (some (.UnaryOp .USub (.Constant (.int 1) k p1) p2)) p3) pos) (eRv m) := re_orE (re_revS h) (re_frz (rf_rev h))
def iAny (m : ME) : MA := orA (iSeq m) (iKeysD m)
theorem ri_any (h : RE X cl iter m) : RI X cl tg iter (iAny m) := ri_orA (ri_seq h) (ri_keys h)
theorem room_u {k : Nat} {A : Around} (hr : Room k A) : A.units + 100 < cLine := by have := hr.un; omega
theorem room64 {k : Nat} {A : Around} (hr : Room k A) : A.units + 64 < cLine := by have := hr.un; omega
theorem room65 {k : Nat} {A : Around} (hr : Room k A) : A.units + 65 < cLine := by have := hr.un; omega
end
/-! ### constants -/
section
variable {K : PySem.W.Frag} {mg : Str → Option Value}
theorem gc_str {x z : Str} (h : ∃ t, mg x = some (.str z t)) : Gc K mg x (.str z) := let ⟨t, e⟩ := h; ⟨_, .str z, e, ⟨t, rfl⟩, fun _ _ => .str z⟩
theorem gc_int {x : Str} {i : Int} (h : ∃ t, mg x = some (.int i t)) : Gc K mg x (.int i) := let ⟨t, e⟩ := h; ⟨_, .int i, e, ⟨t, rfl⟩, fun _ _ => .int i⟩
end
end MM

set_option linter.all false
set_option maxRecDepth 100000
namespace MM
open PySem L2
abbrev eMkF := eMakeF
section
variable {K : PySem.W.Frag} {mg : Str → Option Value} {cl : Str → Option Addr}
theorem fldOk_of {cs : List Str} {f : Str} (h : ∀ c ∈ cs, ∃ C, cl c = some C ∧ Cls K C ∧ NoAttr K C f) : FldOk K cl cs f := fun c hc C e => by
  obtain ⟨D, h1, h2, h3⟩ := h c hc
  obtain rfl : D = C := Option.some.inj (h1.symm.trans e)
  exact ⟨h2, h3⟩
/-- a module's tuple of texts, as a Bool -/
def tupC (K : PySem.W.Frag) (x : Str) (l : List Str) : Bool := match K.lookup (He.ga K x) with
  | some ⟨.type c, none, .seq its _, _⟩ => decide (c = "tuple") && (decide (its.size ≤ sizeLine) && He.relAll (l.map V.str) its.toList)
  | _ => false
theorem tc_of {x : Str} {l : List Str} (h1 : mg x = some (.ref (He.ga K x))) (h : tupC K x l = true) : Tc K mg x (He.ga K x) l := by
  refine ⟨h1, ?_⟩
  unfold tupC at h
  split at h
  · rename_i c its n sl e
    rw [Bool.and_eq_true, Bool.and_eq_true] at h
    exact ⟨_, its, n, e, congrArg Value.type (of_decide_eq_true h.1), rfl, rfl, of_decide_eq_true h.2.1, He.relAll_ok h.2.2⟩
  · cases h
/-- a class that isinstance asks for -/
def insC (K : PySem.W.Frag) (x : Str) : Bool :=
  decide (PySem.W.findIn K (.ref (He.ga K x)) "__class__" = some (some (.builtin "object.__class__"))) && (decide (PySem.W.specialIn K (.builtin "object.__class__") "__get__" = some (some (.builtin "getset_descriptor.__get__"))) &&
    (decide (PySem.W.takesIn K (.builtin "object.__class__") = some true) && (decide (PySem.W.mroIn K (He.ga K x) (.type "object") = some true) && decide (PySem.W.kitOne K (.ref (He.ga K x)) (.ref (He.ga K x)) = some true))))
theorem insTy_of {x : Str} (c : Cls K (He.ga K x)) (h : insC K x = true) : InsTy K (He.ga K x) := by
  unfold insC at h
  simp only [Bool.and_eq_true, decide_eq_true_eq] at h
  exact ⟨c, h.1, h.2.1, h.2.2.1, h.2.2.2.1, h.2.2.2.2⟩
end
/-! ### the head's facts and one Bool more -/
abbrev AlX : Type := Bool × He.AlD
def obsX (ex : PySem.W.Frag → Bool) (fa : List He.Fa) (fn : List He.DefD) (K : PySem.W.Frag) : AlX := (ex K, He.obsD fa fn K)
def SaysX (ex : PySem.W.Frag → Bool) (fa : List He.Fa) (fn : List He.DefD) (K : PySem.W.Frag) : Prop := obsX ex fa fn K = (true, He.valD fn)
def obsXG (n : Nat) (ex : PySem.W.Frag → Bool) (fa : List He.Fa) (fn : List He.DefD) (g : Addr → Option Obj) : AlX := obsX ex fa fn (He.frG g (He.asD g n))
def hookX (n : Nat) (ex : PySem.W.Frag → Bool) (fa : List He.Fa) (fn : List He.DefD) : PySem.W.Hook where
  α := AlX
  obs := fun s => obsXG n ex fa fn s.heap.get?
  val := fun _ => (true, He.valD fn)
  says := fun _ h => ∃ K : PySem.W.Frag, K.In h ∧ SaysX ex fa fn K
  of := fun _ _ q => ⟨_, He.frG_in, q⟩
  keeps := fun _ _ _ ⟨K, i, c⟩ k => ⟨K, PySem.W.Frag.In.keeps i k, c⟩
theorem obsXG_eq {n : Nat} {ex : PySem.W.Frag → Bool} {fa : List He.Fa} {fn : List He.DefD} {g : Addr → Option Obj} {s : Shared} (h : ∀ a, g a = s.heap.get? a) : obsXG n ex fa fn g = (hookX n ex fa fn).obs s := by
  have e : g = s.heap.get? := funext h
  rw [e]
  rfl
theorem SaysX.ex {ex : PySem.W.Frag → Bool} {fa : List He.Fa} {fn : List He.DefD} {K : PySem.W.Frag} (c : SaysX ex fa fn K) : ex K = true := congrArg (fun z : AlX => z.1) c
theorem SaysX.d {ex : PySem.W.Frag → Bool} {fa : List He.Fa} {fn : List He.DefD} {K : PySem.W.Frag} (c : SaysX ex fa fn K) : He.SaysD fa fn K := congrArg (fun z : AlX => z.2) c
end MM

set_option linter.all false
set_option maxRecDepth 100000
namespace MM
open PySem L2
/-! ### a comprehension of two sources -/
theorem Side.appGr {G : Gx} {s1 s2 : S} {p : Addr} {l : List D} (h : Side G s1 s2 p l) {vs : List V} {v : V} : Gr s2 (s2.up p (.lst (vs ++ [v]))) := by
  have pB : s2.B p := by rw [h.b]; exact .inr rfl
  refine ⟨fun _ _ h => h, fun a u q n => .inl ?_, fun a l => .inl l⟩
  have n : a ≠ p := fun z => n (.inr (z ▸ pB))
  show upd s2.H p _ a = some u
  rw [upd_ne n]
  exact q
def comp2Go (g : D → DL → Option DL) (t : MT) (mi1 : MA) (g1 : D → DL → Option DL) (t1 : MT) (e : ME) (vs1 : List Nat) (δ : DL) : List D → MAH
  | [] => fun ah => some ([], ah)
  | d :: r => fun ah => (g d δ).bind fun δ1 => (t δ1 ah).bind fun p => if p.1 = true then
      (mi1 δ1 p.2).bind fun q => if q.1.length ≤ 300 then (compGo g1 t1 e (wipeD δ1 vs1) q.1 q.2).bind fun x => (comp2Go g t mi1 g1 t1 e vs1 δ r x.2).map fun y => (x.1 ++ y.1, y.2) else none
    else comp2Go g t mi1 g1 t1 e vs1 δ r p.2
def fComp2 (mi : MA) (g : D → DL → Option DL) (t : MT) (mi1 : MA) (g1 : D → DL → Option DL) (t1 : MT) (e : ME) (vs vs1 : List Nat) : MA := fun δ ah => (mi δ ah).bind fun p => if p.1.length ≤ 300 then comp2Go g t mi1 g1 t1 e vs1 (wipeD δ vs) p.1 p.2 else none
section
variable {X : Cx} {cl : Str → Option Addr} {elt tg iter tg1 iter1 : Expr} {ifs ifs1 : List Expr} {scope : Scope} {own : List (Str × Nat)} {pos : Pos} {mi mi1 : MA} {g g1 : D → DL → Option DL} {t t1 : MT} {e : ME} {Ts Ts1 : List Nat}
def uI (X : Cx) (scope : Scope) (tg iter : Expr) : TI := fun σ H R => ∀ s H0 C cl' fp, ∃ wi, PI (BCx X scope s H0 C cl' fp) tg iter wi ∧ wi σ H R
theorem pi_u (s : Shared) (H0 : Hp) (C : Addr) (cl' : List (Str × Addr)) (fp : List Addr) : PI (BCx X scope s H0 C cl' fp) tg iter (uI X scope tg iter) := ⟨fun pins st σ H R I h => by
  obtain ⟨wi, h1, h2⟩ := h s H0 C cl' fp
  exact h1.run pins st σ H R I h2⟩
theorem lc2_read {vs vs1 : List Nat} (hi : RI X cl tg iter mi) (hg : ∀ s H C cl' fp, RG (BCx X scope s H C cl' fp) cl tg Ts g) (ht : ∀ s H C cl' fp, RTs (BCx X scope s H C cl' fp) cl ifs t)
    (hi1 : ∀ s H C cl' fp, RI (BCx X scope s H C cl' fp) cl tg1 iter1 mi1) (hg1 : ∀ s H C cl' fp, RG (BCx X scope s H C cl' fp) cl tg1 Ts1 g1) (ht1 : ∀ s H C cl' fp, RTs (BCx X scope s H C cl' fp) cl ifs1 t1)
    (he : ∀ s H C cl' fp, RE (BCx X scope s H C cl' fp) cl elt e) (hsub : ∀ i ∈ Ts, i ∈ vs) (hsub1 : ∀ i ∈ Ts1, i ∈ vs1)
    {δ : DL} {s : S} {σ : St} {ds : List D} {ah' : AH} {Q : VK} (h : fComp2 mi g t mi1 g1 t1 e vs vs1 δ s.ah = some (ds, ah')) (ok : Ok (gx X cl) s) (sv : SV (gx X cl) s δ σ) (q : ∀ s1 p vs, Le (gx X cl) s s1 → s1.ah = ah' → s1.H p = none → DVs (gx X cl) s1 ds vs → Q (.ref p) (upd s1.H p (.lst vs))) :
    tLc2 (wI X tg iter) (uG X scope tg) (uT X scope ifs) (uI X scope tg1 iter1) (uG X scope tg1) (uT X scope ifs1) (uE X scope elt) vs vs1 σ s.H Q := by
  obtain ⟨⟨items, ah1⟩, h1, h2⟩ := Option.bind_eq_some_iff.mp h
  split at h2
  · rename_i hlen
    have hlen : items.length ≤ 300 := hlen
    refine hi δ s σ items ah1 _ h1 ok sv fun s1 J l1 e1 drv Dl hD => ?_
    refine ⟨fun i m H => ∃ s2 acc rest, s2.H = H ∧ i + m = items.length ∧ Side (gx X cl) s1 s2 Dl acc ∧ acc.length ≤ i * 300 ∧ comp2Go g t mi1 g1 t1 e vs1 (wipeD δ vs) (items.drop i) s2.ah = some (rest, ah') ∧ ds = acc ++ rest,
      ⟨items.length, _, [], ds, rfl, Nat.zero_add _, side_start l1.ok hD, Nat.zero_le _, by rw [List.drop_zero]; show comp2Go g t mi1 g1 t1 e vs1 (wipeD δ vs) items s1.ah = _; rw [e1]; exact h2, rfl⟩, fun i m H hW => ?_⟩
    obtain ⟨s2, acc, rest, rfl, him, sd, hac, hgo, hds⟩ := hW
    obtain ⟨d1, d2, d3⟩ := drv s2 (sd.gr hD) sd.ok
    by_cases hi : i < items.length
    · refine .inr ⟨d1 i hi, fun H' => ∃ s2 acc rest, s2.H = H' ∧ (i + 1) + (m - 1) = items.length ∧ Side (gx X cl) s1 s2 Dl acc ∧ acc.length ≤ (i + 1) * 300 ∧ comp2Go g t mi1 g1 t1 e vs1 (wipeD δ vs) (items.drop (i + 1)) s2.ah = some (rest, ah') ∧ ds = acc ++ rest, fun H' hN => ⟨m - 1, by omega, hN⟩, fun x H' hy => ?_⟩
      obtain ⟨l3, dv3⟩ := d3 i items[i] x H' (List.getElem?_eq_getElem hi) hy
      rw [List.drop_eq_getElem_cons hi] at hgo
      obtain ⟨δ1, k1, k2⟩ := Option.bind_eq_some_iff.mp hgo
      obtain ⟨⟨b, ahb⟩, k3, k4⟩ := Option.bind_eq_some_iff.mp k2
      have sd3 := sd.le l3
      have g3 := sd3.gr hD
      have sv3 : SV (gx X cl) { s2 with H := H' } (wipeD δ vs) (L2.wipe σ vs) := ((sv.le l1).mono g3).wipe vs
      intro sa Ha Ca cla fpa
      refine hg sa Ha Ca cla fpa items[i] x (wipeD δ vs) δ1 { s2 with H := H' } (L2.wipe σ vs) _ k1 sd3.ok dv3 sv3 fun σ2 sv4 hl4 hk4 => ⟨by rw [wipe_same hl4 hk4 hsub, wipe_wipe], ?_⟩
      intro sb Hb Cb clb fpb
      refine ht sb Hb Cb clb fpb δ1 { s2 with H := H' } σ2 b ahb _ k3 sd3.ok sv4 fun s4 l4 e4 => ?_
      have sd4 := sd3.le l4
      have sv5 := sv4.le l4
      cases b with
      | true =>
        rw [if_pos rfl]
        rw [if_pos rfl] at k4
        obtain ⟨⟨items1, ahi⟩, k5, k6⟩ := Option.bind_eq_some_iff.mp k4
        split at k6
        case isFalse => cases k6
        rename_i hlen1
        have hlen1 : items1.length ≤ 300 := hlen1
        obtain ⟨⟨r1, ahr⟩, k7, k8⟩ := Option.bind_eq_some_iff.mp k6
        obtain ⟨⟨r2, ahz⟩, k9, k10⟩ := Option.map_eq_some_iff.mp k8
        obtain ⟨rfl, rfl⟩ := Prod.mk.inj k10
        intro sc Hc Cc clc fpc
        refine hi1 sc Hc Cc clc fpc δ1 s4 σ2 items1 ahi _ (by rw [e4]; exact k5) sd4.ok sv5 fun s5 J1 l5 e5 drv1 => ?_
        have sd5 := sd4.le l5
        have sv6 := sv5.le l5
        refine ⟨fun j k H => ∃ s6 acc1 rest1, s6.H = H ∧ j + k = items1.length ∧ Side (gx X cl) s1 s6 Dl acc1 ∧ Gr s5 s6 ∧ acc1.length ≤ i * 300 + j ∧ compGo g1 t1 e (wipeD δ1 vs1) (items1.drop j) s6.ah = some (rest1, ahr) ∧ acc ++ r1 = acc1 ++ rest1,
          ⟨items1.length, s5, acc, r1, rfl, Nat.zero_add _, sd5, Gr.refl, by omega, by rw [List.drop_zero, e5]; exact k7, rfl⟩, fun j k H hW1 => ?_⟩
        obtain ⟨s6, acc1, rest1, rfl, hjk, sd6, g6, hac1, hgo1, hds1⟩ := hW1
        obtain ⟨c1, c2, c3⟩ := drv1 s6 g6 sd6.ok
        by_cases hj : j < items1.length
        · refine .inr ⟨c1 j hj, fun H' => ∃ s6 acc1 rest1, s6.H = H' ∧ (j + 1) + (k - 1) = items1.length ∧ Side (gx X cl) s1 s6 Dl acc1 ∧ Gr s5 s6 ∧ acc1.length ≤ i * 300 + (j + 1) ∧ compGo g1 t1 e (wipeD δ1 vs1) (items1.drop (j + 1)) s6.ah = some (rest1, ahr) ∧ acc ++ r1 = acc1 ++ rest1, fun H' hN => ⟨k - 1, by omega, hN⟩, fun x1 H1' hy1 => ?_⟩
          obtain ⟨l7, dv7⟩ := c3 j items1[j] x1 H1' (List.getElem?_eq_getElem hj) hy1
          rw [List.drop_eq_getElem_cons hj] at hgo1
          obtain ⟨δ2, m1, m2⟩ := Option.bind_eq_some_iff.mp hgo1
          obtain ⟨⟨b1, ahb1⟩, m3, m4⟩ := Option.bind_eq_some_iff.mp m2
          have sd7 := sd6.le l7
          have g7 := g6.trans l7.gr
          have sv7 : SV (gx X cl) { s6 with H := H1' } (wipeD δ1 vs1) (L2.wipe σ2 vs1) := (sv6.mono g7).wipe vs1
          intro sd Hd Cd cld fpd
          refine hg1 sd Hd Cd cld fpd items1[j] x1 (wipeD δ1 vs1) δ2 { s6 with H := H1' } (L2.wipe σ2 vs1) _ m1 sd7.ok dv7 sv7 fun σ3 sv8 hl8 hk8 => ⟨by rw [wipe_same hl8 hk8 hsub1, wipe_wipe], ?_⟩
          intro se He Ce cle fpe
          refine ht1 se He Ce cle fpe δ2 { s6 with H := H1' } σ3 b1 ahb1 _ m3 sd7.ok sv8 fun s8 l8 e8 => ?_
          have sd8 := sd7.le l8
          have g8 := g7.trans l8.gr
          cases b1 with
          | true =>
            rw [if_pos rfl]
            rw [if_pos rfl] at m4
            obtain ⟨⟨y, ahy⟩, m5, m6⟩ := Option.bind_eq_some_iff.mp m4
            obtain ⟨⟨r3, ahr3⟩, m7, m8⟩ := Option.map_eq_some_iff.mp m6
            obtain ⟨rfl, rfl⟩ := Prod.mk.inj m8
            intro sf Hf Cf clf fpf
            refine he sf Hf Cf clf fpf δ2 s8 σ3 y ahy _ (by rw [e8]; exact m5) sd8.ok (sv8.le l8) fun s9 v l9 e9 dv9 => ?_
            have sd9 := sd8.le l9
            obtain ⟨vs9, hv9, hs9⟩ := sd9.at_
            refine ⟨vs9, hv9, ?_, s9.up Dl (.lst (vs9 ++ [v])), acc1 ++ [y], r3, rfl, by omega, sd9.app hD dv9 hv9 hs9, (g8.trans l9.gr).trans sd9.appGr, by rw [List.length_append, List.length_singleton]; omega, ?_, by rw [hds1, List.append_assoc]; rfl⟩
            · rw [← hs9.len]
              have : i * 300 ≤ 300 * 300 := Nat.mul_le_mul_right _ (by omega)
              exact Nat.lt_of_lt_of_le (by omega) line100k
            · show compGo g1 t1 e (wipeD δ1 vs1) (items1.drop (j + 1)) s9.ah = _
              rw [e9]
              exact m7
          | false =>
            rw [if_neg Bool.false_ne_true]
            rw [if_neg Bool.false_ne_true] at m4
            exact ⟨s8, acc1, rest1, rfl, by omega, sd8, g8, by omega, by rw [e8]; exact m4, hds1⟩
        · have hj' : j = items1.length := by omega
          subst hj'
          rw [List.drop_length] at hgo1
          obtain ⟨rfl, e2⟩ := Prod.mk.inj (Option.some.inj hgo1)
          rw [List.append_nil] at hds1
          subst hds1
          refine .inl ⟨c2, s6, acc ++ r1, r2, rfl, by omega, sd6, by omega, by rw [e2]; exact k9, by rw [hds, List.append_assoc]⟩
      | false =>
        rw [if_neg Bool.false_ne_true]
        rw [if_neg Bool.false_ne_true] at k4
        exact ⟨s4, acc, rest, rfl, by omega, sd4, by omega, by rw [e4]; exact k4, hds⟩
    · have hi' : i = items.length := by omega
      subst hi'
      rw [List.drop_length] at hgo
      obtain ⟨rfl, e2⟩ := Prod.mk.inj (Option.some.inj hgo)
      refine .inl ⟨d2, ?_⟩
      obtain ⟨s3, vs3, l3, e3, hp3, hs3, eH⟩ := sd.done l1.ok hD
      rw [eH]
      rw [List.append_nil] at hds
      subst hds
      exact q s3 Dl vs3 (l1.trans l3) (by rw [e3, e2]) hp3 hs3
  · cases h2
theorem rf_lc2 {vs vs1 : List Nat} (hv : own.map (·.2) = vs) (hc : X.calm = true) (hN : X.N.Nodup) (bk : BlkOk X.N X.env.scope scope own) (hi : RI X cl tg iter mi) (hg : ∀ s H C cl' fp, RG (BCx X scope s H C cl' fp) cl tg Ts g) (ht : ∀ s H C cl' fp, RTs (BCx X scope s H C cl' fp) cl ifs t)
    (hi1 : ∀ s H C cl' fp, RI (BCx X scope s H C cl' fp) cl tg1 iter1 mi1) (hg1 : ∀ s H C cl' fp, RG (BCx X scope s H C cl' fp) cl tg1 Ts1 g1) (ht1 : ∀ s H C cl' fp, RTs (BCx X scope s H C cl' fp) cl ifs1 t1)
    (he : ∀ s H C cl' fp, RE (BCx X scope s H C cl' fp) cl elt e) (hsub : ∀ i ∈ Ts, i ∈ vs) (hsub1 : ∀ i ∈ Ts1, i ∈ vs1) (hv1 : ∀ i ∈ vs1, i ∈ vs)
    (hs : ∀ x, foldedSetIterable iter X.env x = pure x := by intro _; rfl) (hs1 : ∀ env x, foldedSetIterable iter1 env x = pure x := by intro _ _; rfl) : RF X cl (.ListComp elt [⟨tg, iter, ifs, 0⟩, ⟨tg1, iter1, ifs1, 0⟩] scope pos) (fComp2 mi g t mi1 g1 t1 e vs vs1) := fun δ s σ ds ah' Q h ok sv q => by
  subst hv
  exact WE.of (pe_lc2 hc hN pi_any bk hv1 pg_u pts_u pi_u pg_u pts_u pe_u hs hs1) (lc2_read hi hg ht hi1 hg1 ht1 he hsub hsub1 h ok sv q)
end
/-! ### x.bit_length() -/
def gBits : AH → D → Option D := fun _ x => match x with | .int i => some (.int (Builtin.Int.intBits i : Nat)) | _ => none
section
variable {X : Cx} {cl : Str → Option Addr} {o c : Expr} {mo : ME}
theorem re_bits (hp : PE X c (tBits (WE X o))) (ho : RE X cl o mo) : RE X cl c (e1 gBits mo) := fun δ s σ d ah' Q h ok sv q => by
  obtain ⟨p, h1, h2⟩ := Option.bind_eq_some_iff.mp h
  obtain ⟨d', h3, h4⟩ := Option.map_eq_some_iff.mp h2
  obtain ⟨rfl, rfl⟩ := Prod.mk.inj h4
  refine WE.of hp (ho δ s σ p.1 p.2 _ h1 ok sv fun s1 x l1 e1 d1 => ?_)
  obtain ⟨p1, p2⟩ := p
  cases p1 with
  | int i =>
    cases d1
    cases h3
    exact ⟨i, rfl, q s1 _ l1 e1 (.int _)⟩
  | _ => cases h3
end
end MM

set_option linter.all false
set_option maxRecDepth 100000
namespace MM
open PySem L2
/-! ### sorted(t) of a tuple of texts -/
theorem gather_tup {prog : Program} {w : World} {A : Around} {E : Value → Shared → Prop} {s : Shared} {l : Addr} {o : Obj} {n : Nat} {zs : List Value} {Q : List Value → Shared → Prop} (ho : s.heap.get? l = some o) (hc : o.cls = .type "tuple") (hd : o.data = .seq zs.toArray n) (hz : zs.length ≤ sizeLine)
    (fin : Q zs { s with heap := (s.heap.push (PyProof.Rows.seqObj "list" #[] 0)).update s.heap.objs.size (Obj.mapSeq (· ++ zs.toArray)) }) : wpAny (model prog w) A (collect (.ref l)) Q E s := by
  unfold collect
  refine wpAny_bind <| wpAny_runValue <| codeAny_builtin PyProof.Rows.entry_proto_collect' ?_
  show wpAny _ _ (do
    again (.builtin "list.__iadd__" ⟨[← newList [], .ref l], []⟩)) _ _ s
  refine wpAny_bind <| wpAny_newList <| wpAny_pure ⟨Code.quiet_builtin _ (by decide +kernel), codeAny_builtin PyProof.Rows.entry_list_iadd' ?_⟩
  show wpAny _ _ (Builtin.List.listExtendWith (.ref s.heap.objs.size)
    (.ref l) (.ref s.heap.objs.size)) _ _ _
  unfold Builtin.List.listExtendWith
  have h1 : (s.heap.push (PyProof.Rows.seqObj "list" #[] 0)).get? l = some o := Heap.get?_push_of_some _ ho
  have h2 : (s.heap.push (PyProof.Rows.seqObj "list" #[] 0)).get? s.heap.objs.size = some (PyProof.Rows.seqObj "list" #[] 0) := Heap.get?_push_size _ rfl
  have tt : (Value.type "tuple" == Value.type "tuple") = true := by rfl
  refine wpAny_bind (wpAny_typeOf (T := "tuple") ⟨o, h1, hc⟩ ?_); rw [if_pos (by rw [tt]; simp)]
  refine wpAny_bind (PyProof.Rows.listItems_at h1 hd ?_); refine wpAny_bind (PyProof.Rows.listItems_at (n := 0) h2 rfl ?_)
  rw [if_neg (by simp)]; refine wpAny_bind (PyProof.Rows.listUpdate_at (n := 0) h2 rfl ?_ (Nat.zero_le _) (by show (#[] ++ zs.toArray).size ≤ sizeLine + 1; simp; omega))
  refine wpAny_pure ?_
  refine wpAny_bind (wpAny_load (PyProof.Rows.get?_update_seq h2 _) ?_)
  show wpAny _ _ (pure ((#[] : Array Value) ++ zs.toArray).toList) _ _ _
  have e : ((#[] : Array Value) ++ zs.toArray).toList = zs := by simp
  rw [e]; exact wpAny_pure fin
section
variable {X : Cx}
theorem call_sortedTup : CallR X (.builtin "sorted") (fun xs H Q => ∃ (a : Addr) (ks : List Str), xs = [.ref a] ∧ SqT X.K H a (ks.map V.str) ∧ ks.length < 64 ∧
    ∀ ys p, ys.Perm ks → PyProof.Rows.sortedS ys = true → H p = none → Q (.ref p) (upd H p (.lst (ys.map V.str)))) := by
  rintro pins s σ H xs us Q I r ⟨a, ks, rfl, hq, h64, q⟩
  obtain ⟨u, rfl, rx⟩ := vals1 r
  cases rx
  obtain ⟨its, rv, ⟨o, ho, hc, n, hd⟩, hz⟩ := I.tuple hq
  have hal : its.length = ks.length := by rw [← rv.length, List.length_map]
  have hS : PyProof.Rows.StrsAre its ks := rv.strs
  refine Calls.call_function_entry PyProof.Rows.kind_sorted PyProof.Rows.plain_sorted PyProof.Rows.entry_sorted
    (PyProof.Rows.args_sorted1 _) ?_
  unfold Builtin.«sorted»
  refine wpAny_bind (m := checkCount "sorted" 1 1 _) <| wpAny_pure ?_
  refine wpAny_bind (gather_tup ho hc hd (by rw [← rv.length]; exact hz) ?_)
  generalize eh : (s.heap.push (PyProof.Rows.seqObj "list" #[] 0)).update s.heap.objs.size (Obj.mapSeq (· ++ its.toArray)) = h'
  have hk : ∀ b o, s.heap.get? b = some o → h'.get? b = some o := fun b o e => by
    have lt : b < s.heap.objs.size := Heap.lt_size e
    rw [← eh, Heap.get?_update_ne _ _ _ _ (Nat.ne_of_lt lt)]
    exact Heap.get?_push_of_some _ e
  have I1 : Inv X pins σ H { s with heap := h', toks := s.toks } := I.kept hk
  refine wpAny_bind <| wpAny_newList ?_ (by rw [hal, sizeLine_eq]; omega)
  have hoL : (h'.push (PyProof.Rows.seqObj "list" its.toArray 0)).get? h'.objs.size = some (PyProof.Rows.seqObj "list" its.toArray 0) := Heap.get?_push_size _ rfl
  show wpAny _ _ _ _ _ { s with heap := h'.push (PyProof.Rows.seqObj "list" its.toArray 0), toks := s.toks }
  refine wpAny_bind <| wpAny_holding <| wpAny_call_entry PyProof.Rows.slot_list_sort ⟨_, hoL, rfl⟩ PyProof.Rows.entry_list_sort
    (PyProof.Rows.list_sort_treeK PyProof.Rows.strKind_oneLt (s := { s with heap := h'.push (PyProof.Rows.seqObj "list" its.toArray 0), toks := s.toks }) hoL hS.keysOf
      (fun v₁ v₂ rest e => PyProof.Rows.keyKind_strs (by rw [← e]; exact hS)) (by rw [hal]; exact h64) fun st' hp hs => ⟨_, rfl, ?_⟩)
    (PyProof.Rows.args_list_sort _)
  obtain ⟨ys, g1, g2, g3⟩ := PyProof.Rows.sorted_out_str hS hp hs
  obtain ⟨e', he'⟩ := PyProof.Rows.sortedHeap_at (vs := its) (out := (PyProof.Rows.arrOf st').map (·.2)) hoL
  have hlen : (ys.map V.str).length ≤ sizeLine := by
    rw [List.length_map, g2.length_eq, sizeLine_eq]
    omega
  refine wpAny_pure ⟨_, rfl, .ref h'.objs.size, upd H h'.objs.size (.lst (ys.map V.str)), I1.laid (t' := s.toks) (fun b u e => ?_) (Nat.le_refl _)
    (show ObjOk X.prog X.w _ _ _ (.lst (ys.map V.str)) from ⟨hlen, ((PyProof.Rows.arrOf st').map (·.2)).toList, e', vals_of_strs g1, by
      rw [Array.toArray_toList]
      exact he'⟩), rfl, q ys _ g2 g3 (I1.hok.fresh (Nat.le_refl _))⟩
  have lt : b < h'.objs.size := Heap.lt_size e
  rw [PyProof.Rows.sortedHeap_old (Nat.ne_of_lt lt) (by rw [PyProof.Rows.size_push']; exact Nat.lt_succ_of_lt lt)]
  exact Heap.get?_push_of_some _ e
end
def gSortedT (ah : AH) (d : D) : Option (List D) := match d with
  | .tup l => (strsOf l).bind fun xs => if xs.length < 64 then some ((sortBy leS xs).map .str) else none
  | _ => none
theorem c_sortedT {X : Cx} {cl : Str → Option Addr} : CF X cl (.builtin "sorted") gSortedT := fun s x d1 l Q h ok dv q => by
  cases d1 with
  | tup m =>
    obtain ⟨xs, h1, h2⟩ := Option.bind_eq_some_iff.mp (show (strsOf m).bind (fun xs => if xs.length < 64 then some ((sortBy leS xs).map D.str) else none) = some l from h)
    split at h2
    · rename_i h64
      cases h2
      obtain ⟨a, vs, rfl, hr, hs⟩ := tup_view dv
      have e := strsOf_v hs h1
      subst e
      refine ⟨_, call_sortedTup, a, xs, rfl, hr, h64, fun ys t hp hso ht => ?_⟩
      rw [sortS_uniq hp hso]
      exact q t _ ht (strs_dv _)
    · cases h2
  | _ => cases h
end MM

set_option linter.all false
set_option maxRecDepth 100000
namespace MM
open PySem L2 PyProof.Rows PySem.Spec
/-! ### defs of which it is known that no list or dict is being written around them -/
abbrev Free (A : Around) : Prop := A.guards = some []
structure FnF (P : Program) (w : World) (K : PySem.W.Frag) (mg : Str → Option Value) (base : Heap) (k : Nat) (f : Addr) (fd : FuncData) (ps : List Str) (sp : Sp) : Prop where
  ln : ∀ vs H Q E, sp vs H Q E → vs.length = ps.length
  go : ∀ (A : Around) (outer : List Env) (s : Shared) (H : Hp) (args : Args) (us : List Value) (vs : List V) (Q : VK) (E : XK), Free A → Room k A → Env0 P w K mg base A outer s H → BindsTo s fd args (ps.zip us) → Vals vs us → sp vs H Q E →
    codeAny (model P w) A (.call (.ref f) args) (CR CX0 outer P w H s Q E) s
section
variable {P : Program} {w : World} {K : PySem.W.Frag} {mg : Str → Option Value} {base : Heap} {x qual : Str} {params : Arguments} {body : List Stmt} {scope : Scope} {f : Addr} {fd : FuncData} {N ps : List Str} {k : Nat} {sp : Sp}
theorem fnF_of (F : FunD K x qual params body scope [] [] f fd) (S : FnScope N ps scope) (len : ∀ vs H Q E, sp vs H Q E → vs.length = ps.length)
    (hbody : ∀ (cdv : Value) (A : Around) (outer : List Env) (s : Shared) (H : Hp) (vs : List V) (Q : VK) (E : XK), Free (A.deeper (envOfC qual scope s.heap.objs.size f cdv)) → Room k (A.deeper (envOfC qual scope s.heap.objs.size f cdv)) → sp vs H Q E →
      ∃ t, PSs (cxOf CX0 P w K mg base N qual scope f cdv A outer s H E) body t ∧ t { nx := fun _ H' => Q .non H', rt := Q } (start N vs) H) : FnF P w K mg base (k + 1) f fd ps sp := by
  obtain ⟨oc, od, dV, kV, doc, pm, an, cdv, ct, osl, rfl, lk, hcd, _, _⟩ := F.ex
  refine ⟨len, fun A outer s H args us vs Q E hA hr e0 hb r hsp => ?_⟩
  have kin : K.In s.heap := e0.mod.kin.keeps fun b o e => (e0.bs b o e).1
  have nol : s.heap.NoLimit := e0.mod.nolimit.keeps fun b o e => (e0.bs b o e).1
  have kinds : ∀ y ∈ ps.zip us, scope.names.lookup y.1 = some .local ∨ (scope.names.lookup y.1 = some .cell ∧ ((cellsFrom (s.heap.objs.size + 1) scope.names []).lookup y.1).isSome = true) := by
    rintro ⟨n, v⟩ hy
    exact (S.par n (List.of_mem_zip hy).1).elim .inl fun q => .inr ⟨q, PySem.W.cellsFrom_some _ _ _ (.inl q)⟩
  refine codeAny_call_function hr.depth (kin _ _ lk) rfl S.co S.gen rfl
    (PySem.W.codeRec_of kin hcd) (hb _ _ _ _ (wpAny_newFunctionEnv_cells S.kind kinds fun env he s1 x => ?_))
  subst he
  refine ⟨nol.keeps x.toInCall.keep, codeAny_func ?_⟩
  obtain ⟨t, ht, hq⟩ := hbody cdv A outer s H vs Q E hA (hr.deeper _) hsp
  have J0 : Inv (cxOf CX0 P w K mg base N qual scope f cdv A outer s H E) [] (start N vs) H s1 := inv_start S hr.hd e0 (len _ _ _ _ hsp) r x
  refine wpAny_mono (ht.run [] s1 (start N vs) H _ J0 hq) (fun fl s' hs => ?_) (fun e s' hs => hs)
  match fl, hs with
  | .ret u, ⟨v, σ', H', J, rv, q⟩ => exact ⟨v, H', J.os, J.bare, J.base, J.hok, rv, q⟩
  | .next, ⟨σ', H', J, q⟩ => exact ⟨.non, H', J.os, J.bare, J.base, J.hok, rfl, q⟩
  | .brk, ⟨_, _, _, q⟩ => exact q.elim
  | .cont, ⟨_, _, _, q⟩ => exact q.elim
end
section
variable {X : Cx} {k : Nat} {f : Addr} {fd : FuncData} {ps : List Str} {sp : Sp} {x : Str} {p pos : Pos} {e : Expr} {es : List Expr} {t : TA}
theorem pe_callF (F : FnF X.prog X.w X.K X.mg X.base k f fd ps sp) (hA : Free X.A) (hr : Room k X.A) (hg : Gl X x) (hm : X.mg x = some (.ref f)) (hk : PySem.W.keepIn X.K (.ref f) = true) (hb : Binds X.K fd ps [])
    (ha : PA X (e :: es) t) (hdb : (x == ("__debug__" : Str)) = false := by decide) (he : starEach (e :: es) X.env = (false, eval e X.env) :: starEach es X.env := by rfl) (hpl : (backTo pos (starEach es X.env)).any (·.1) = false := by rfl) :
    PE X (.Call (.Name x p) (e :: es) [] pos) (tCall sp [] E0 t) := ⟨fun pins s σ H Q I h => by
  refine wpAny_Call_Name_kw (ld_glob I hg hm ?_ hdb)
  refine PySem.W.callWith_K (h₀ := X.base) I.ok.mod.kin hk (thn (ha.run pos pins s σ H _ I h) fun us s1 ⟨vs, H1, I1, r, q⟩ => ⟨I1.kIn, ?_⟩) he hpl
  have q : sp (vs ++ []) H1 Q E0 := q
  rw [List.append_nil] at q
  have hl : us.length = ps.length := by rw [← r.length]; exact F.ln _ _ _ _ q
  have bb := hb s1 us I1.kIn (by rw [List.append_nil]; exact hl)
  rw [List.append_nil] at bb
  refine wpAny_call (codeAny_mono (F.go X.A X.stack s1 H1 ⟨us, []⟩ us vs Q E0 hA hr I1.env0 bb r q) fun r s' hq => ?_)
  match r, hq with
  | .error e, hq => exact (show False from hq).elim
  | .ok (.ret u), hq => exact I1.after hq
  | .ok .next, hq => exact False.elim hq
  | .ok .brk, hq => exact False.elim hq
  | .ok .cont, hq => exact False.elim hq⟩
/-! ### repr of data -/
theorem call_reprD (hA : Free X.A) (hu : X.A.units + 64 < cLine) : CallR X (.builtin "repr") (fun xs H Q => ∃ (v : V) (d : PyData), xs = [v] ∧ Dp X.K H v d ∧ d.showable = true ∧ d.hasDict = false ∧ d.depth < 40 ∧ d.shown.length ≤ sizeLine ∧ Q (.str d.shown) H) := by
  rintro pins s σ H xs us Q I r ⟨v, d, rfl, hd, h1, h2, h3, h4, q⟩
  obtain ⟨u, rfl, rx⟩ := vals1 r
  obtain ⟨as, rd⟩ := Dp.reads I d v u hd rx
  have fin : ∀ h' tk u, (∀ b o, s.heap.get? b = some o → h'.get? b = some o) → EP X pins σ Q (.str d.shown u) { s with heap := h', toks := tk } := fun h' tk u hk => ⟨.str d.shown, H, I.kept hk, ⟨_, rfl⟩, q⟩
  cases hd with
  | non =>
    obtain rfl : u = Value.none := rx
    exact PySem.P.repr_of_none (fin s.heap _ _ fun _ _ e => e)
  | bl b =>
    obtain rfl : u = Value.bool b := rx
    exact PySem.P.repr_of_bool (fin s.heap _ _ fun _ _ e => e)
  | int i =>
    obtain ⟨t, rfl⟩ := _root_.id rx
    exact PySem.P.repr_of_int (by simpa [PyData.showable] using h1) (fin s.heap _ _ fun _ _ e => e)
  | str z =>
    obtain ⟨t, rfl⟩ := _root_.id rx
    exact PySem.P.repr_of_str (fin s.heap _ _ fun _ _ e => e) (by simpa [PyData.shown] using h4)
  | _ =>
    cases rx
    exact repr_of_reads' rd h1 (PyData.noDict_hsm h2) hA (by omega) (fun _ _ e => e) (fun h' u tk hk => fin h' tk u hk) h4
end
def gRepr (ah : AH) (d : D) : Option D := (topPy ah d).bind fun p => if p.showable = true ∧ p.hasDict = false ∧ p.depth < 40 ∧ p.shown.length ≤ 16777216 then some (.str p.shown) else none
section
variable {X : Cx} {cl : Str → Option Addr}
theorem c_repr (hA : Free X.A) (hu : X.A.units + 64 < cLine) : C1 X cl (.builtin "repr") gRepr := fun s x d1 d Q h ok dv q => by
  obtain ⟨p, h1, h2⟩ := Option.bind_eq_some_iff.mp h
  split at h2
  · rename_i hp
    cases h2
    exact ⟨_, call_reprD hA hu, x, p, rfl, topPy_dp ok dv h1, hp.1, hp.2.1, hp.2.2.1, by rw [sizeLine_eq]; exact hp.2.2.2, q s _ (Le.refl ok) rfl (.str _)⟩
  · cases h2
/-! ### such a def and its mirror, for callers -/
def GoodF (P : Program) (w : World) (K : PySem.W.Frag) (mg : Str → Option Value) (base : Heap) (cl : Str → Option Addr) (k : Nat) (a : Addr) (mf : MF) (n : Nat) : Prop :=
  ∃ fd ps, FnF P w K mg base k a fd ps (spM K cl mf n) ∧ Binds K fd ps [] ∧ PySem.W.keepIn K (.ref a) = true
end
section
variable {P : Program} {w : World} {K : PySem.W.Frag} {mg : Str → Option Value} {base : Heap}
theorem fnDF_of {x qual : Str} {params : Arguments} {body : List Stmt} {scope : Scope} {f : Addr} {fd : FuncData} {N ps : List Str} {k : Nat} {cl : Str → Option Addr} {ms : MS} {n p : Nat} (F : FunD K x qual params body scope [] [] f fd) (sc : FnScope N ps scope) (hn : N.length = n) (hp : ps.length = p)
    (hb : ∀ (cdv : Value) (A : Around) (outer : List Env) (s : Shared) (H : Hp) (E : XK), Free (A.deeper (envOfC qual scope s.heap.objs.size f cdv)) → Room k (A.deeper (envOfC qual scope s.heap.objs.size f cdv)) → RSs (cxOf CX0 P w K mg base N qual scope f cdv A outer s H E).nox cl body ms) :
    FnF P w K mg base (k + 1) f fd ps (spM K cl (mfn n p ms) p) := by
  subst hn hp
  refine fnF_of F sc (fun vs H Q E h => h.1) (fun cdv A outer s H vs Q E hA hr h => ?_)
  obtain ⟨hl, S, ds, d, ah', eH, h1, ok, dv, q⟩ := h
  subst eH
  unfold mfn at h1
  split at h1
  · rename_i hd
    obtain ⟨⟨o, ah2⟩, h2, h3⟩ := Option.bind_eq_some_iff.mp h1
    refine ⟨_, PSs.nox pssW, hb cdv A outer s S.H E hA hr _ S _ o ah2 _ h2 ok (sv_start dv hl) fun s1 l1 e1 => ?_⟩
    cases o with
    | rt d1 =>
      intro v dv1
      obtain ⟨s2, l2, e2, eh, d2⟩ := trim_step (d' := d) (ah' := ah') ok l1 dv1 (by rw [e1]; exact Option.some.inj h3)
      show Q v s1.H
      rw [← eh]
      exact q s2 v l2 e2 d2
    | nx δ1 =>
      intro σ' _
      obtain ⟨s2, l2, e2, eh, d2⟩ := trim_step (d := .non) (v := .non) (d' := d) (ah' := ah') ok l1 .non (by rw [e1]; exact Option.some.inj h3)
      show Q .non s1.H
      rw [← eh]
      exact q s2 _ l2 e2 d2
    | _ => cases h3
  · cases h1
theorem goodF_of {x qual : Str} {params : Arguments} {body : List Stmt} {scope : Scope} {f : Addr} {N ps : List Str} {k : Nat} {cl : Str → Option Addr} {ms : MS} {n p : Nat} (F : ∃ fd, FunD K x qual params body scope [] [] f fd) (sc : FnScope N ps scope) (hn : N.length = n) (hp : ps.length = p)
    (hbind : ∀ (kV doc pm : Value) (an : Option Addr) (cdv ct : Value) (us : List Value), us.length = ps.length → bindArgs (PySem.W.fnOf x qual params body scope .none kV doc pm an cdv ct) ⟨us, []⟩ = pure (ps.zip us))
    (hb : ∀ (cdv : Value) (A : Around) (outer : List Env) (s : Shared) (H : Hp) (E : XK), Free (A.deeper (envOfC qual scope s.heap.objs.size f cdv)) → Room k (A.deeper (envOfC qual scope s.heap.objs.size f cdv)) → RSs (cxOf CX0 P w K mg base N qual scope f cdv A outer s H E).nox cl body ms) :
    GoodF P w K mg base cl (k + 1) f (mfn n p ms) p := by
  obtain ⟨fd, F⟩ := F
  exact ⟨fd, ps, fnDF_of F sc hn hp hb, F.bindsN hbind, F.kp⟩
end
section
variable {X : Cx} {cl : Str → Option Addr} {e : Expr} {es : List Expr} {pos : Pos} {ms : MA}
theorem re_callF {x : Str} {p : Pos} {a : Addr} {mf : MF} {k n : Nat} (G : GoodF X.prog X.w X.K X.mg X.base cl k a mf n) (hA : Free X.A) (hr : Room k X.A) (hm : X.mg x = some (.ref a)) (ha : RA X cl (e :: es) ms) (hl : ∀ δ ah p, ms δ ah = some p → p.1.length = n) (hk : (e :: es).length = n := by rfl) (hg : Gl X x := by rfl)
    (hdb : (x == ("__debug__" : Str)) = false := by decide) (he : starEach (e :: es) X.env = (false, eval e X.env) :: starEach es X.env := by rfl) (hpl : (backTo pos (starEach es X.env)).any (·.1) = false := by rfl) : RE X cl (.Call (.Name x p) (e :: es) [] pos) (eCall mf ms) := by
  obtain ⟨fd, ps, F, b, kp⟩ := G
  exact re_call (pe_callF F hA hr hg hm kp b paW hdb he hpl) hk ha hl
end
/-! ### the law's call, by such a def -/
theorem law_callF {P : Program} {w : World} {K : PySem.W.Frag} {mg mb : Str → Option Value} {k : Nat} {fa a : Addr} {fd : FuncData} {x : Str} {sp : Sp} {z : Shared} {vs : List Value} {ns : List Int}
    (KX : K.In z.heap) (hns : z.heap.Ns mainGlobals mg) (hb : z.heap.Ns builtinsNs mb) (hbb : ∀ x : Str, x ≠ "__name__" → mb x = bootBuiltins x) (hlim : z.heap.NoLimit) (hg : z.gens = #[])
    (ha : z.heap.get? a = some { cls := .type "list", data := .seq vs.toArray }) (hi : IntsAre vs ns) (hl : ns.length ≤ sizeLine) (hr : Room k callerA)
    (F : ∀ base : Heap, K.In base → base.Ns mainGlobals mg → FnF P w K mg base k fa fd [x] sp) (hbind : ∀ (s : Shared) (u : Value), BindsTo s fd ⟨[u], []⟩ [(x, u)])
    (hsp : ∀ H : Hp, Only H → SqL K H a (ns.map V.int) → sp [.ref a] H (fun v _ => v = .bl true) fun _ _ _ => False) :
    codeAny (model P w) callerA (.call (.ref fa) ⟨[.ref a], []⟩) (fun r s' => r = .ok (.ret (.bool true)) ∧ OldK z.heap s'.heap ∧ s'.os = z.os ∧ AllBare s'.gens) z := by
  have rv := vals_ints hi
  suffices go : ∀ H : Hp, Only H → SqL K H a (ns.map V.int) → HOk P w H z.heap → (∀ b, H b ≠ none → b = a) → (H a ≠ none → K.lookup a = none) →
      codeAny (model P w) callerA (.call (.ref fa) ⟨[.ref a], []⟩) (fun r s' => r = .ok (.ret (.bool true)) ∧ OldK z.heap s'.heap ∧ s'.os = z.os ∧ AllBare s'.gens) z by
    have lv := hi.length
    cases hk : K.lookup a with
    | some o =>
      have e := KX a o hk
      rw [ha] at e
      cases e
      have sq : SqL K (fun _ => none) a (ns.map V.int) := .inr ⟨_, vs.toArray, _, hk, rfl, rfl, rfl, by rw [List.size_toArray, lv]; exact hl, by simpa using rv⟩
      exact go (fun _ => none) (fun _ => .inl rfl) sq (fun b u z => nomatch (show (none : Option HO) = some u from z)) (fun b z => absurd rfl z) fun z => absurd rfl z
    | none =>
      generalize eH : (fun b => if b = a then some (HO.frz { cls := .type "list", data := .seq vs.toArray } (.lst (ns.map V.int))) else none : Hp) = H
      have at_ : H a = some (.frz { cls := .type "list", data := .seq vs.toArray } (.lst (ns.map V.int))) := by rw [← eH]; exact if_pos rfl
      have off : ∀ {b}, b ≠ a → H b = none := fun hb => by rw [← eH]; exact if_neg hb
      refine go H (fun b => ?_) (.inl (.inr ⟨_, at_⟩)) (fun b u z => ?_) (fun b z => ?_) fun _ => hk
      · by_cases hb : b = a
        · exact .inr ⟨_, _, by rw [hb]; exact at_⟩
        · exact .inl (off hb)
      · by_cases hb : b = a
        · rw [hb, at_] at z
          cases z
          rw [hb]
          exact ⟨ha, by rw [List.length_map]; exact hl, vs, _, rv, ha⟩
        · rw [off hb] at z
          cases z
      · exact Classical.byContradiction fun hb => z (off hb)
  intro H hO hS hok hA hK
  have only : ∀ {b : Addr} {u : HO}, H b = some u → b = a := fun e => hA _ (by rw [e]; simp)
  have up : ∀ {b : Addr} {o : Obj}, z.heap.get? b = some o → H b = none → (hidT z.heap H).get? b = some o := fun e n => hidT_get e n
  have dictN : ∀ {b : Addr} {o : Obj} {es : Array DictEntry} {ep : Nat}, z.heap.get? b = some o → o.data = .dict es ep → H b = none := fun {b o es ep} e d => by
    cases q : H b with
    | none => rfl
    | some u =>
      rw [only q, ha] at e
      cases e
      exact nomatch (show Data.seq vs.toArray _ = Data.dict es ep from d)
  have ns' : ∀ {b : Addr} {m : Str → Option Value}, z.heap.Ns b m → (hidT z.heap H).Ns b m := fun ⟨o, es, ep, e, d, r⟩ => ⟨o, es, ep, up e (dictN e d), d, r⟩
  have kb : K.In (hidT z.heap H) := fun b o e => up (KX b o e) (by
    cases q : H b with
    | none => rfl
    | some u =>
      have eb := only q
      rw [eb] at e q
      rw [hK (by rw [q]; simp)] at e
      cases e)
  have hM : Mod K mg (hidT z.heap H) := ⟨kb, ns' hns, ⟨mb, ns' hb, hbb⟩, let ⟨mc, h1, h2⟩ := hlim; ⟨mc, ns' h1, h2⟩⟩
  have e0 : Env0 P w K mg (hidT z.heap H) callerA [] z H := { frames := rfl, mod := hM, bs := fun b o e => of_hidT e, bsz := Nat.le_of_eq (hidT_size _ _), funs := trivial, frf := fun b hb => (List.not_mem_nil (show b ∈ ([] : List Addr) from hb)).elim, hok := hok, bare := .of_eq hg }
  refine codeAny_mono ((F _ kb (ns' hns)).go callerA [] z H ⟨[.ref a], []⟩ [.ref a] [.ref a] _ _ rfl hr e0 (hbind z (.ref a)) (.cons rfl .nil) (hsp H hO hS)) fun r s' h => ?_
  match r, h with
  | .error e, h => exact (show False from h).elim
  | .ok .next, h => exact False.elim h
  | .ok .brk, h => exact False.elim h
  | .ok .cont, h => exact False.elim h
  | .ok (.ret u), ⟨v, H', os, bare, un, hok', r', q⟩ =>
    obtain rfl : v = .bl true := q
    obtain rfl : u = Value.bool true := r'
    refine ⟨rfl, OldK.of_keep fun b o e => ?_, os, bare⟩
    rcases hO b with q | ⟨ob, xs, q⟩
    · exact un.keep b o e q (fun z => (List.not_mem_nil (show b ∈ ([] : List Addr) from z)).elim) (by simp)
    · obtain ⟨e1, _⟩ := hok b _ q
      obtain ⟨e2, _⟩ := hok' b _ (un.frzs b ob _ q)
      rw [e] at e1
      cases e1
      exact e2
theorem walk_ofF {l : PySem.W.OpenLaw} {n k : Nat} {q : Program} {loose : List Str} {XP : (Str → Option Value) → Heap → Prop} {YP : World → Heap → Prop} {d : DefRec} {x : Str}
    (hn : l.most = some n) (hn2 : n ≤ sizeLine) (hdf : d.params.defaults = []) (hr : Room k callerA)
    (F : ∀ (w : World) (mg : Str → Option Value) (fa : Addr) (h : Heap), YP w h → h.Ns mainGlobals mg → mg d.name = some (.ref fa) →
      ∃ (K : PySem.W.Frag) (fd : FuncData) (sp : Sp), K.In h ∧ (∀ (s : Shared) (u : Value), BindsTo s fd ⟨[u], []⟩ [(x, u)]) ∧
        (∀ (H : Hp) (a : Addr) (ns : List Int), ns.length ≤ n → Only H → SqL K H a (ns.map V.int) → sp [.ref a] H (fun v _ => v = .bl true) fun _ _ _ => False) ∧
        ∀ base : Heap, K.In base → base.Ns mainGlobals mg → FnF l.prog w K mg base k fa fd [x] sp) :
    PySem.W.WalkO q loose XP YP l.row.toRowW d [] (fun f vs => PySem.call f vs) := Att.attach_call hn hdf fun w s₀ s₁ mg mb fa o pm cd doc a vs ns G Y ho hd hcd hmg hobj hints hlen hg => by
  obtain ⟨K, fd, sp, KX, hb, hsp, hF⟩ := F w mg fa _ Y G.T.g hmg
  exact law_callF KX G.T.g G.T.b G.T.builtins G.T.nolimit hg hobj hints (Nat.le_trans hlen hn2) hr hF hb fun H hO hS => hsp H a ns hlen hO hS
end MM

set_option linter.all false
set_option maxRecDepth 100000
/-! the mathematics of lots: plain rows of numbers -/
namespace LM
open PySem L2 MM
/-- the top bit's place is free in the number, or made so -/
def sift1 (n r : Nat) : Nat := if n.testBit r.log2 = true then n ^^^ r else n
def sift (rows : List Nat) (n : Nat) : Nat := rows.foldl sift1 n
def geN (a b : Nat) : Bool := decide (b ≤ a)
def join (rows : List Nat) (n : Nat) : List Nat :=
  if sift rows n = 0 then rows else sortBy geN (rows.map (fun r => if r.testBit (sift rows n).log2 = true then r ^^^ sift rows n else r) ++ [sift rows n])
def plain (ns : List Nat) : List Nat := ns.foldl join []
/-- plain rows below 2^B -/
structure Pl (B : Nat) (L : List Nat) : Prop where
  pos : ∀ r ∈ L, 0 < r
  lt : ∀ r ∈ L, r < 2 ^ B
  one : L.Pairwise fun r s => r.testBit s.log2 = false ∧ s.testBit r.log2 = false
theorem testBit_log2 {n : Nat} (h : 0 < n) : n.testBit n.log2 = true := by
  have h1 := Nat.log2_self_le (n := n) (by omega)
  have h2 := Nat.lt_log2_self (n := n)
  rw [Nat.testBit_eq_decide_div_mod_eq]
  have : n / 2 ^ n.log2 = 1 := by
    apply Nat.div_eq_of_lt_le
    · omega
    · rw [Nat.pow_succ] at h2; omega
  simp [this]
theorem testBit_hi {n i : Nat} (h : n.log2 < i) : n.testBit i = false := by
  apply Nat.testBit_lt_two_pow
  exact Nat.lt_of_lt_of_le (Nat.lt_log2_self (n := n)) (Nat.pow_le_pow_right (by decide) h)
theorem log2_of {n i : Nat} (h1 : n.testBit i = true) (h2 : ∀ j, i < j → n.testBit j = false) : n.log2 = i := by
  have hn : n ≠ 0 := by
    intro e
    rw [e, Nat.zero_testBit] at h1
    cases h1
  rcases Nat.lt_trichotomy n.log2 i with h | h | h
  · rw [testBit_hi h] at h1
    cases h1
  · exact h
  · have := testBit_log2 (n := n) (by omega)
    rw [h2 _ h] at this
    cases this
theorem pos_of {n i : Nat} (h : n.testBit i = true) : 0 < n := by
  rcases Nat.eq_zero_or_pos n with rfl | h'
  · rw [Nat.zero_testBit] at h; cases h
  · exact h'
theorem sift_lt {B : Nat} : ∀ {L : List Nat} {n : Nat}, (∀ r ∈ L, r < 2 ^ B) → n < 2 ^ B → sift L n < 2 ^ B
  | [], n, _, h => h
  | r :: L, n, hL, h => by
    show sift L (sift1 n r) < _
    refine sift_lt (fun s hs => hL s (List.mem_cons_of_mem _ hs)) ?_
    unfold sift1
    split
    · exact Nat.xor_lt_two_pow h (hL r (List.mem_cons_self ..))
    · exact h
/-- a place at which no row has a bit stays as it was -/
theorem sift_keep {i : Nat} : ∀ {L : List Nat} {n : Nat}, (∀ r ∈ L, r.testBit i = false) → (sift L n).testBit i = n.testBit i
  | [], n, _ => rfl
  | r :: L, n, h => by
    show (sift L (sift1 n r)).testBit i = _
    rw [sift_keep fun s hs => h s (List.mem_cons_of_mem _ hs)]
    unfold sift1
    split
    · rw [Nat.testBit_xor, h r (List.mem_cons_self ..), Bool.xor_false]
    · rfl
theorem sift_free {L : List Nat} {n : Nat} (pos : ∀ r ∈ L, 0 < r) (one : L.Pairwise fun r s => r.testBit s.log2 = false ∧ s.testBit r.log2 = false) : ∀ r ∈ L, (sift L n).testBit r.log2 = false := by
  induction L generalizing n with
  | nil => intro r hr; cases hr
  | cons s L ih =>
    intro r hr
    rw [List.pairwise_cons] at one
    rcases List.mem_cons.mp hr with rfl | hr
    · show (sift L (sift1 n r)).testBit _ = false
      rw [sift_keep fun t ht => (one.1 t ht).2]
      unfold sift1
      split
      · rename_i h
        rw [Nat.testBit_xor, h, testBit_log2 (pos r (List.mem_cons_self ..))]
        rfl
      · rename_i h
        exact Bool.eq_false_iff.mpr h
    · exact ih (fun t ht => pos t (List.mem_cons_of_mem _ ht)) one.2 r hr
theorem mem_sort {le : Nat → Nat → Bool} {l : List Nat} {x : Nat} : x ∈ sortBy le l ↔ x ∈ l := (sortBy_perm l).mem_iff
theorem Pl.join {B : Nat} {L : List Nat} (h : Pl B L) {n : Nat} (hn : n < 2 ^ B) : Pl B (join L n) := by
  unfold LM.join
  split
  · exact h
  rename_i h0
  generalize e : sift L n = x at h0
  have x0 : 0 < x := by omega
  have xB : x < 2 ^ B := by rw [← e]; exact sift_lt h.lt hn
  have xf : ∀ r ∈ L, x.testBit r.log2 = false := by rw [← e]; exact sift_free h.pos h.one
  have nl : ∀ r ∈ L, r.log2 ≠ x.log2 := fun r hr q => by
    have := xf r hr
    rw [q, testBit_log2 x0] at this
    cases this
  have lg : ∀ r ∈ L, (if r.testBit x.log2 = true then r ^^^ x else r).log2 = r.log2 := fun r hr => by
    split
    · rename_i hb
      have lt : x.log2 < r.log2 := by
        rcases Nat.lt_trichotomy x.log2 r.log2 with q | q | q
        · exact q
        · exact absurd q.symm (nl r hr)
        · rw [testBit_hi q] at hb; cases hb
      refine log2_of ?_ fun j hj => ?_
      · rw [Nat.testBit_xor, testBit_log2 (h.pos r hr), xf r hr]; rfl
      · rw [Nat.testBit_xor, testBit_hi hj, testBit_hi (Nat.lt_trans lt hj)]; rfl
    · rfl
  have ps : ∀ r ∈ L, 0 < (if r.testBit x.log2 = true then r ^^^ x else r) := fun r hr => by
    split
    · refine pos_of (i := r.log2) ?_
      rw [Nat.testBit_xor, testBit_log2 (h.pos r hr), xf r hr]; rfl
    · exact h.pos r hr
  have bit : ∀ r ∈ L, ∀ k, k ≠ x.log2 → x.testBit k = false → (if r.testBit x.log2 = true then r ^^^ x else r).testBit k = r.testBit k := fun r hr k hk hx => by
    split
    · rw [Nat.testBit_xor, hx, Bool.xor_false]
    · rfl
  have bx : ∀ r, (if r.testBit x.log2 = true then r ^^^ x else r).testBit x.log2 = false := fun r => by
    split
    · rename_i hb
      rw [Nat.testBit_xor, hb, testBit_log2 x0]; rfl
    · rename_i hb
      exact Bool.eq_false_iff.mpr hb
  have mem : ∀ y, y ∈ L.map (fun r => if r.testBit x.log2 = true then r ^^^ x else r) ++ [x] → y = x ∨ ∃ r ∈ L, y = if r.testBit x.log2 = true then r ^^^ x else r := fun y hy => by
    rcases List.mem_append.mp hy with q | q
    · obtain ⟨r, hr, rfl⟩ := List.mem_map.mp q
      exact .inr ⟨r, hr, rfl⟩
    · exact .inl (List.mem_singleton.mp q)
  refine ⟨fun y hy => ?_, fun y hy => ?_, ?_⟩
  · rcases mem y (mem_sort.mp hy) with rfl | ⟨r, hr, rfl⟩
    · exact x0
    · exact ps r hr
  · rcases mem y (mem_sort.mp hy) with rfl | ⟨r, hr, rfl⟩
    · exact xB
    · split
      · exact Nat.xor_lt_two_pow (h.lt r hr) xB
      · exact h.lt r hr
  · refine ((sortBy_perm (le := geN) _).pairwise_iff (fun {a b} q => ⟨q.2, q.1⟩)).mpr ?_
    rw [List.pairwise_append]
    refine ⟨List.pairwise_map.mpr ((List.Pairwise.and_mem.mp h.one).imp fun {r s} q => ?_), List.pairwise_singleton .., fun a ha b hb => ?_⟩
    · obtain ⟨hr, hs, q1, q2⟩ := q
      rw [lg s hs, lg r hr]
      exact ⟨(bit r hr _ (nl s hs) (xf s hs)).trans q1, (bit s hs _ (nl r hr) (xf r hr)).trans q2⟩
    · obtain ⟨r, hr, rfl⟩ := List.mem_map.mp ha
      rw [List.mem_singleton.mp hb, lg r hr]
      exact ⟨bx r, xf r hr⟩
theorem Pl.nil {B : Nat} : Pl B [] := ⟨(fun _ h => nomatch h), (fun _ h => nomatch h), List.Pairwise.nil⟩
theorem Pl.fold {B : Nat} : ∀ {ns L : List Nat}, Pl B L → (∀ n ∈ ns, n < 2 ^ B) → Pl B (ns.foldl LM.join L)
  | [], _, h, _ => h
  | n :: ns, _, h, hn => Pl.fold (ns := ns) (Pl.join h (hn n (List.mem_cons_self ..))) fun m hm => hn m (List.mem_cons_of_mem _ hm)
theorem Pl.plain {B : Nat} {ns : List Nat} (h : ∀ n ∈ ns, n < 2 ^ B) : Pl B (plain ns) := Pl.fold Pl.nil h
theorem nodup_len : ∀ {B : Nat} {l : List Nat}, l.Nodup → (∀ x ∈ l, x < B) → l.length ≤ B
  | 0, l, _, h => by
    cases l with
    | nil => exact Nat.le_refl _
    | cons a r => exact absurd (h a (List.mem_cons_self ..)) (by omega)
  | B + 1, l, nd, h => by
    by_cases hb : B ∈ l
    · have e := List.length_erase_of_mem hb
      have := nodup_len (B := B) (l := l.erase B) (nd.erase B) fun x hx => by
        have q := (List.Nodup.mem_erase_iff nd).mp hx
        have := h x q.2
        have := q.1
        omega
      omega
    · have := nodup_len (B := B) nd fun x hx => by
        have := h x hx
        have : x ≠ B := fun e => hb (e ▸ hx)
        omega
      omega
/-- at most one row for each place -/
theorem Pl.len {B : Nat} {L : List Nat} (h : Pl B L) : L.length ≤ B := by
  have nd : (L.map Nat.log2).Nodup := by
    refine List.pairwise_map.mpr ((List.Pairwise.and_mem.mp h.one).imp fun {r s} q e => ?_)
    obtain ⟨hr, hs, q1, q2⟩ := q
    have e : r.log2 = s.log2 := e
    rw [← e, testBit_log2 (h.pos r hr)] at q1
    cases q1
  have := nodup_len (B := B) nd fun k hk => by
    obtain ⟨r, hr, rfl⟩ := List.mem_map.mp hk
    exact (Nat.log2_lt (by have := h.pos r hr; omega)).mpr (h.lt r hr)
  rwa [List.length_map] at this
end LM

set_option linter.all false
set_option maxRecDepth 100000
/-! tools for the mirrors' mathematics -/
namespace MM
open PySem L2
theorem trim_self (ah : AH) (d : D) : trim ah (d, ah) = (d, ah) := by
  unfold trim
  split
  · rw [List.take_length]
  · rfl
/-- no object names what is not there -/
def Bd (ah : AH) : Prop := ∀ o ∈ ah, AO.bd ah.length o = true
theorem trim_len {ah ah2 g : AH} {d : D} (h : ah2.length = ah.length) (hd : D.bd ah.length d = true) (hb : Bd ah2) : trim ah (d, ah2 ++ g) = (d, ah2) := by
  unfold trim
  have e : (ah2 ++ g).take ah.length = ah2 := by rw [← h, List.take_left]
  rw [e, if_pos]
  rw [hd, Bool.true_and, List.all_eq_true]
  intro o ho
  rw [← h]
  exact hb o ho
theorem trim_len0 {ah ah2 : AH} {d : D} (h : ah2.length = ah.length) : trim ah (d, ah2) = (d, ah2) := by
  unfold trim
  split
  · rw [← h, List.take_length]
  · rfl
theorem seq_nx {a b : MS} {δ δ1 : DL} {ah ah1 : AH} (h : a δ ah = some (.nx δ1, ah1)) : sSeq a b δ ah = b δ1 ah1 := by
  unfold sSeq
  rw [h]
  rfl
theorem seq_rt {a b : MS} {δ : DL} {d : D} {ah ah1 : AH} (h : a δ ah = some (.rt d, ah1)) : sSeq a b δ ah = some (.rt d, ah1) := by
  unfold sSeq
  rw [h]
  rfl
theorem if_t {c : MT} {a b : MS} {δ : DL} {ah ah1 : AH} (h : c δ ah = some (true, ah1)) : sIf c a b δ ah = a δ ah1 := by
  unfold sIf
  rw [h]
  rfl
theorem if_f {c : MT} {a b : MS} {δ : DL} {ah ah1 : AH} (h : c δ ah = some (false, ah1)) : sIf c a b δ ah = b δ ah1 := by
  unfold sIf
  rw [h]
  rfl
theorem fn_rt {n k : Nat} {s : MS} {ds : List D} {ah ah2 : AH} {d : D} (hk : ds.length = k) (h : s (ds.map some ++ List.replicate (n - k) none) ah = some (.rt d, ah2)) : mfn n k s ds ah = some (trim ah (d, ah2)) := by
  unfold mfn
  rw [if_pos hk, h]
  rfl
theorem fn_nx {n k : Nat} {s : MS} {ds : List D} {δ : DL} {ah ah2 : AH} (hk : ds.length = k) (h : s (ds.map some ++ List.replicate (n - k) none) ah = some (.nx δ, ah2)) : mfn n k s ds ah = some (trim ah (.non, ah2)) := by
  unfold mfn
  rw [if_pos hk, h]
  rfl
theorem call_ev {mf : MF} {ma : MA} {δ : DL} {ah ah1 : AH} {ds : List D} (h : ma δ ah = some (ds, ah1)) : eCall mf ma δ ah = mf ds ah1 := by
  unfold eCall
  rw [h]
  rfl
/-! comprehensions -/
inductive All2 {α β : Type} (P : α → β → Prop) : List α → List β → Prop
  | nil : All2 P [] []
  | cons {a : α} {b : β} {l : List α} {m : List β} : P a b → All2 P l m → All2 P (a :: l) (b :: m)
theorem compGo_map {g : D → DL → Option DL} {t : MT} {e : ME} {δ : DL} {ah : AH} {α : Type} {i : α → D} {f : α → D} : ∀ {l : List α}, (∀ x ∈ l, ∃ δ1, g (i x) δ = some δ1 ∧ t δ1 ah = some (true, ah) ∧ e δ1 ah = some (f x, ah)) → compGo g t e δ (l.map i) ah = some (l.map f, ah)
  | [], _ => rfl
  | d :: r, h => by
    obtain ⟨δ1, h1, h2, h3⟩ := h d (by simp)
    have ih := compGo_map (g := g) (t := t) (e := e) (δ := δ) (i := i) (f := f) (l := r) fun x hx => h x (by simp [hx])
    simp only [compGo, List.map_cons, h1, h2, h3, ih, Option.bind_some, Option.map_some, if_true]
theorem compGo_filter {g : D → DL → Option DL} {t : MT} {e : ME} {δ : DL} {ah : AH} {α : Type} {i : α → D} {f : α → D} {p : α → Bool} : ∀ {l : List α}, (∀ x ∈ l, ∃ δ1, g (i x) δ = some δ1 ∧ t δ1 ah = some (p x, ah) ∧ (p x = true → e δ1 ah = some (f x, ah))) → compGo g t e δ (l.map i) ah = some ((l.filter p).map f, ah)
  | [], _ => rfl
  | d :: r, h => by
    obtain ⟨δ1, h1, h2, h3⟩ := h d (by simp)
    have ih := compGo_filter (g := g) (t := t) (e := e) (δ := δ) (i := i) (f := f) (p := p) (l := r) fun x hx => h x (by simp [hx])
    cases hp : p d with
    | true => simp only [compGo, List.map_cons, h1, h2, hp, h3 hp, ih, Option.bind_some, Option.map_some, if_true, List.filter_cons]
    | false => simp only [compGo, List.map_cons, h1, h2, hp, ih, Option.bind_some, List.filter_cons, Bool.false_eq_true, if_false]
/-- a comprehension whose turns change the heap: what each turn gives is told by P, what it keeps by R -/
theorem compGo_rel {g : D → DL → Option DL} {e : ME} {δ : DL} {α : Type} {i : α → D} {P : α → D → Prop} {R : AH → AH → Prop} (rr : ∀ ah, R ah ah) (tr : ∀ a b c, R a b → R b c → R a c) : ∀ {l : List α} {ah : AH}, (∀ x ∈ l, ∀ ah1, R ah ah1 → ∃ δ1 d ah2, g (i x) δ = some δ1 ∧ e δ1 ah1 = some (d, ah2) ∧ R ah1 ah2 ∧ P x d) →
    ∃ ds ah', compGo g tYesM e δ (l.map i) ah = some (ds, ah') ∧ R ah ah' ∧ All2 P l ds
  | [], ah, _ => ⟨[], ah, rfl, rr ah, .nil⟩
  | x :: r, ah, h => by
    obtain ⟨δ1, d, ah2, h1, h2, h3, h4⟩ := h x (by simp) ah (rr ah)
    obtain ⟨ds, ah', k1, k2, k3⟩ := compGo_rel rr tr (i := i) (P := P) (l := r) (ah := ah2) fun y hy ah3 hr => h y (by simp [hy]) ah3 (tr _ _ _ h3 hr)
    refine ⟨d :: ds, ah', ?_, tr _ _ _ h3 k2, .cons h4 k3⟩
    simp only [compGo, List.map_cons, h1, tYesM, h2, k1, Option.bind_some, Option.map_some, if_true]
/-- a for loop: an invariant by what is gone through -/
theorem forGo_inv {g : D → DL → Option DL} {b : MS} {I : List D → DL → AH → Prop} : ∀ {l done : List D} {δ : DL} {ah : AH}, I done δ ah → (∀ dn d r δ ah, done ++ l = dn ++ d :: r → I dn δ ah → ∃ δ1 δ2 ah2, g d δ = some δ1 ∧ b δ1 ah = some (.nx δ2, ah2) ∧ I (dn ++ [d]) δ2 ah2) →
    ∃ δ' ah', forGo g b l δ ah = some (.nx δ', ah') ∧ I (done ++ l) δ' ah'
  | [], done, δ, ah, h, _ => ⟨δ, ah, rfl, by rw [List.append_nil]; exact h⟩
  | d :: r, done, δ, ah, h, st => by
    obtain ⟨δ1, δ2, ah2, h1, h2, h3⟩ := st done d r δ ah rfl h
    obtain ⟨δ', ah', k1, k2⟩ := forGo_inv (l := r) (done := done ++ [d]) h3 fun dn d' r' δ ah e => st dn d' r' δ ah (by rw [← e, List.append_assoc]; rfl)
    refine ⟨δ', ah', ?_, by rw [List.append_assoc] at k2; exact k2⟩
    simp only [forGo, h1, h2, k1, Option.bind_some]
end MM

set_option linter.all false
set_option maxRecDepth 100000
namespace MM
open PySem L2
theorem iAny_tup {m : ME} {δ : DL} {ah ah1 : AH} {l : List D} (h : m δ ah = some (.tup l, ah1)) : iAny m δ ah = some (l, ah1) := by
  simp [iAny, orA, iSeq, h, gIter]
theorem iAny_lst {m : ME} {δ : DL} {ah ah1 : AH} {l : List D} (h : m δ ah = some (.lst l, ah1)) : iAny m δ ah = some (l, ah1) := by
  simp [iAny, orA, iSeq, h, gIter]
theorem iAny_scr {m : ME} {δ : DL} {ah ah1 : AH} {l : List D} (h : m δ ah = some (.scr l, ah1)) : iAny m δ ah = some (l, ah1) := by
  simp [iAny, orA, iSeq, h, gIter]
theorem iAny_str {m : ME} {δ : DL} {ah ah1 : AH} {z : Str} (h : m δ ah = some (.str z, ah1)) : iAny m δ ah = some (signs z, ah1) := by
  simp [iAny, orA, iSeq, h, gIter]
theorem iAny_dic {m : ME} {δ : DL} {ah ah1 : AH} {l : List (Key × D)} (h : m δ ah = some (.dic l, ah1)) : iAny m δ ah = some (l.map fun kv => keyD kv.1, ah1) := by
  simp [iAny, orA, iSeq, iKeysD, h, gIter]
theorem rng1 {m : ME} {δ : DL} {ah ah1 : AH} {n : Nat} (h : m δ ah = some (.int n, ah1)) (hn : n ≤ 10000) : iRng1M m δ ah = some ((List.range n).map fun i => .int (i : Nat), ah1) := by
  simp only [iRng1M, h, Option.bind_some, gRange]
  rw [if_pos (by omega)]
  simp
theorem comp_ev {mi : MA} {g : D → DL → Option DL} {t : MT} {e : ME} {vs : List Nat} {δ : DL} {ah ah1 : AH} {l : List D} (h : mi δ ah = some (l, ah1)) (hl : l.length ≤ 100000) : fComp mi g t e vs δ ah = compGo g t e (wipeD δ vs) l ah1 := by
  simp only [fComp, h, Option.bind_some]
  rw [if_pos hl]
theorem for_ev {mi : MA} {g : D → DL → Option DL} {b : MS} {δ : DL} {ah ah1 : AH} {l : List D} (h : mi δ ah = some (l, ah1)) : sFor mi g b δ ah = forGo g b l δ ah1 := by
  simp only [sFor, h, Option.bind_some]
theorem bls_map {α : Type} (p : α → Bool) : ∀ l : List α, blsOf (l.map fun x => .bl (p x)) = some (l.map p)
  | [] => rfl
  | x :: r => by simp [blsOf, bls_map p r]
theorem strs_map {α : Type} (p : α → Str) : ∀ l : List α, strsOf (l.map fun x => .str (p x)) = some (l.map p)
  | [] => rfl
  | x :: r => by simp [strsOf, strs_map p r]
theorem frz_ev {m : MA} {δ : DL} {ah ah1 : AH} {l : List D} (h : m δ ah = some (l, ah1)) : eFrz m δ ah = some (.lst l, ah1) := by
  simp [eFrz, h]
theorem own_ev {m : MA} {δ : DL} {ah ah1 : AH} {l : List D} (h : m δ ah = some (l, ah1)) : eOwn m δ ah = some (.ptr ah1.length, ah1 ++ [.lst l]) := by
  simp [eOwn, h]
theorem e1_ev {g : AH → D → Option D} {m : ME} {δ : DL} {ah ah1 : AH} {x y : D} (h : m δ ah = some (x, ah1)) (hg : g ah1 x = some y) : e1 g m δ ah = some (y, ah1) := by
  simp [e1, h, hg]
theorem f1_ev {g : AH → D → Option (List D)} {m : ME} {δ : DL} {ah ah1 : AH} {x : D} {y : List D} (h : m δ ah = some (x, ah1)) (hg : g ah1 x = some y) : f1 g m δ ah = some (y, ah1) := by
  simp [f1, h, hg]
theorem bin_ev {g : AH → D → D → Option D} {a b : ME} {δ : DL} {ah ah1 ah2 : AH} {x y z : D} (h1 : a δ ah = some (x, ah1)) (h2 : b δ ah1 = some (y, ah2)) (hg : g ah2 x y = some z) : eBin g a b δ ah = some (z, ah2) := by
  simp [eBin, h1, h2, hg]
theorem tof_ev {m : ME} {δ : DL} {ah ah1 : AH} {b : Bool} (h : m δ ah = some (.bl b, ah1)) : tOf m δ ah = some (b, ah1) := by
  simp [tOf, h]
theorem ret_ev {m : ME} {δ : DL} {ah ah1 : AH} {d : D} (h : m δ ah = some (d, ah1)) : sRet m δ ah = some (.rt d, ah1) := by
  simp [sRet, h]
theorem asg_ev {i : Nat} {m : ME} {δ : DL} {ah ah1 : AH} {d : D} (h : m δ ah = some (d, ah1)) : sAsg (tgN i) m δ ah = some (.nx (δ.set i (some d)), ah1) := by
  simp [sAsg, tgN, h]
theorem exp_ev {m : ME} {δ : DL} {ah ah1 : AH} {d : D} (h : m δ ah = some (d, ah1)) : sExpr m δ ah = some (.nx δ, ah1) := by
  simp [sExpr, h]
theorem all_lst (ah : AH) (bs : List Bool) : gAll ah (.lst (bs.map .bl)) = some (.bl (bs.all fun b => b)) := by
  simp [gAll, asL, blsOf_map]
theorem chain_t {a b c : ME} {δ : DL} {ah : AH} {i j k : Int} (h1 : a δ ah = some (.int i, ah)) (h2 : b δ ah = some (.int j, ah)) (h3 : c δ ah = some (.int k, ah)) (e1 : i ≤ j) (e2 : j ≤ k) : eChain gLe gLe a b c δ ah = some (.bl true, ah) := by
  simp [eChain, h1, h2, h3, gI, e1, e2]
theorem len_str {m : ME} {δ : DL} {ah ah1 : AH} {z : Str} (h : m δ ah = some (.str z, ah1)) (hz : z.length ≤ 100000) : e1 gLen m δ ah = some (.int z.length, ah1) := e1_ev h (by simp [gLen, hz])
theorem len_tup {m : ME} {δ : DL} {ah ah1 : AH} {l : List D} (h : m δ ah = some (.tup l, ah1)) : e1 gLen m δ ah = some (.int l.length, ah1) := e1_ev h rfl
theorem len_lst {m : ME} {δ : DL} {ah ah1 : AH} {l : List D} (h : m δ ah = some (.lst l, ah1)) : e1 gLen m δ ah = some (.int l.length, ah1) := e1_ev h rfl
theorem tnot_ev {t : MT} {δ : DL} {ah ah1 : AH} {b : Bool} (h : t δ ah = some (b, ah1)) : tNotM t δ ah = some (!b, ah1) := by simp [tNotM, h]
theorem tor_f {t u : MT} {δ : DL} {ah ah1 : AH} (h : t δ ah = some (false, ah1)) : tOrM t u δ ah = u δ ah1 := by simp [tOrM, h]
theorem tor_t {t u : MT} {δ : DL} {ah ah1 : AH} (h : t δ ah = some (true, ah1)) : tOrM t u δ ah = some (true, ah1) := by simp [tOrM, h]
theorem tand_t {t u : MT} {δ : DL} {ah ah1 : AH} (h : t δ ah = some (true, ah1)) : tAndM t u δ ah = u δ ah1 := by simp [tAndM, h]
theorem tand_f {t u : MT} {δ : DL} {ah ah1 : AH} (h : t δ ah = some (false, ah1)) : tAndM t u δ ah = some (false, ah1) := by simp [tAndM, h]
theorem and_t {a b : ME} {δ : DL} {ah ah1 : AH} (h : a δ ah = some (.bl true, ah1)) : eAnd a b δ ah = b δ ah1 := by simp [eAnd, h]
/-- one sign of a text in a text -/
theorem in_sign (ah : AH) (c : Nat) (z : Str) : gIn ah (.str ⟨#[c]⟩) (.str z) = some (.bl (decide (c ∈ z.cps.toList))) := by
  simp [gIn, dIn, Str.length]
end MM

set_option linter.all false
set_option maxRecDepth 100000
namespace MM
open PySem L2
/-! ### equality of plain data -/
def pb : Nat → D → Bool
  | _, .non => true
  | _, .int _ => true
  | _, .str z => PyData.strOk z
  | n + 1, .tup l => l.all (pb n)
  | n + 1, .lst l => l.all (pb n)
  | _, _ => false
def isLst : D → Bool | .lst _ => true | _ => false
theorem pb_py : ∀ (n : Nat) (d : D), pb n d = true → ∃ p, D.py d = some p ∧ p.canLay0 = true ∧ p.depth ≤ n + 1 := by
  intro n
  induction n with
  | zero =>
    intro d h
    cases d with
    | non => exact ⟨_, by rw [D.py], rfl, by simp [PyData.depth]⟩
    | int i => exact ⟨_, by rw [D.py], rfl, by simp [PyData.depth]⟩
    | str z => exact ⟨_, by rw [D.py], by simpa [pb, PyData.canLay0] using h, by simp [PyData.depth]⟩
    | _ => simp [pb] at h
  | succ n ih =>
    have all : ∀ l : List D, l.all (pb n) = true → ∃ ps, D.pys l = some ps ∧ PyData.canLayAll0 ps = true ∧ PyData.depthAll ps ≤ n + 1 := fun l => by
      induction l with
      | nil => exact fun _ => ⟨[], by rw [D.pys], by rw [PyData.canLayAll0], by simp [PyData.depthAll]⟩
      | cons a r ihl =>
        intro h
        rw [List.all_cons, Bool.and_eq_true] at h
        obtain ⟨p, h1, h2, h3⟩ := ih a h.1
        obtain ⟨ps, k1, k2, k3⟩ := ihl h.2
        exact ⟨p :: ps, by simp [D.pys, h1, k1], by simp [PyData.canLayAll0, h2, k2], by simp [PyData.depthAll]; omega⟩
    intro d h
    cases d with
    | non => exact ⟨_, by rw [D.py], rfl, by simp [PyData.depth]⟩
    | int i => exact ⟨_, by rw [D.py], rfl, by simp [PyData.depth]⟩
    | str z => exact ⟨_, by rw [D.py], by simpa [pb, PyData.canLay0] using h, by simp [PyData.depth]⟩
    | tup l =>
      obtain ⟨ps, k1, k2, k3⟩ := all l (by simpa [pb] using h)
      exact ⟨.tuple ps, by simp [D.py, k1], by simpa [PyData.canLay0] using k2, by simp [PyData.depth]; omega⟩
    | lst l =>
      obtain ⟨ps, k1, k2, k3⟩ := all l (by simpa [pb] using h)
      exact ⟨.list ps, by simp [D.py, k1], by simpa [PyData.canLay0] using k2, by simp [PyData.depth]; omega⟩
    | _ => simp [pb] at h
theorem beq_dec {α : Type} [DecidableEq α] (a b : α) : (a == b) = decide (a = b) := by
  by_cases h : a = b <;> simp [h]
theorem pb_eqv : ∀ (n : Nat) (x y : D) (p q : PyData), pb n x = true → pb n y = true → D.py x = some p → D.py y = some q → PyData.eqv p q = decide (x = y) := by
  intro n
  induction n with
  | zero =>
    intro x y p q hx hy ex ey
    cases x <;> first | (simp [pb] at hx; done) | skip
    all_goals (cases y <;> first | (simp [pb] at hy; done) | skip)
    all_goals
      simp only [D.py, Option.some.injEq] at ex ey
      subst ex ey
      first | (simp [PyData.eqv]; done) | (simp only [PyData.eqv, D.int.injEq, D.str.injEq]; exact beq_dec _ _)
  | succ n ih =>
    have all : ∀ (l m : List D) (ps qs : List PyData), l.all (pb n) = true → m.all (pb n) = true → D.pys l = some ps → D.pys m = some qs → PyData.eqvAll ps qs = decide (l = m) := fun l => by
      induction l with
      | nil =>
        intro m ps qs hl hm el em
        simp only [D.pys, Option.some.injEq] at el
        subst el
        cases m with
        | nil =>
          simp only [D.pys, Option.some.injEq] at em
          subst em
          simp [PyData.eqvAll]
        | cons b s =>
          simp only [D.pys] at em
          obtain ⟨q, h1, h2⟩ := Option.bind_eq_some_iff.mp em
          obtain ⟨qs', h3, rfl⟩ := Option.map_eq_some_iff.mp h2
          simp [PyData.eqvAll]
      | cons a r ihl =>
        intro m ps qs hl hm el em
        simp only [D.pys] at el
        obtain ⟨p, h1, h2⟩ := Option.bind_eq_some_iff.mp el
        obtain ⟨ps', h3, rfl⟩ := Option.map_eq_some_iff.mp h2
        rw [List.all_cons, Bool.and_eq_true] at hl
        cases m with
        | nil =>
          simp only [D.pys, Option.some.injEq] at em
          subst em
          simp [PyData.eqvAll]
        | cons b s =>
          simp only [D.pys] at em
          obtain ⟨q, k1, k2⟩ := Option.bind_eq_some_iff.mp em
          obtain ⟨qs', k3, rfl⟩ := Option.map_eq_some_iff.mp k2
          rw [List.all_cons, Bool.and_eq_true] at hm
          rw [PyData.eqvAll, ih a b p q hl.1 hm.1 h1 k1, ihl s ps' qs' hl.2 hm.2 h3 k3]
          simp
    intro x y p q hx hy ex ey
    cases x <;> first | (simp [pb] at hx; done) | skip
    all_goals (cases y <;> first | (simp [pb] at hy; done) | skip)
    all_goals
      simp only [D.py, Option.some.injEq, Option.map_eq_some_iff] at ex ey
      try obtain ⟨ps, e1, rfl⟩ := ex
      try obtain ⟨qs, e2, rfl⟩ := ey
      try subst ex
      try subst ey
      first
        | (rw [PyData.eqv, all _ _ _ _ (by simpa [pb] using hx) (by simpa [pb] using hy) e1 e2]; simp; done)
        | (simp [PyData.eqv]; done)
        | (simp only [PyData.eqv, D.int.injEq, D.str.injEq]; exact beq_dec _ _)
theorem pb_up : ∀ {n : Nat} {d : D}, pb n d = true → pb (n + 1) d = true := by
  intro n
  induction n with
  | zero => intro d h; cases d <;> simp_all [pb]
  | succ n ih =>
    intro d h
    cases d <;> simp_all [pb]
/-- == of plain data -/
theorem dEq_pb {n : Nat} {ah : AH} {x y : D} (hn : n ≤ 60) (hx : pb n x = true) (hy : pb n y = true) : dEq ah x y = some (decide (x = y)) := by
  obtain ⟨p, e1, c1, d1⟩ := pb_py n x hx
  obtain ⟨q, e2, c2, d2⟩ := pb_py n y hy
  have sh : (SeqAt.shaped p && SeqAt.shaped q) = true := by
    simp only [SeqAt.shaped, Bool.and_eq_true, decide_eq_true_eq]
    exact ⟨⟨c1, by omega⟩, c2, by omega⟩
  have go : ((topPy ah x).bind fun p => (topPy ah y).bind fun r => if (SeqAt.shaped p && SeqAt.shaped r) = true then some (PyData.eqv p r) else none) = some (decide (x = y)) := by
    have t1 : topPy ah x = some p := by cases x <;> first | exact e1 | (simp [D.py] at e1)
    have t2 : topPy ah y = some q := by cases y <;> first | exact e2 | (simp [D.py] at e2)
    rw [t1, t2, Option.bind_some, Option.bind_some, if_pos sh, pb_eqv n x y p q hx hy e1 e2]
  cases x <;> cases y <;> first | exact go | (simp [dEq]; done) | (simp [pb] at hx; done) | (simp [pb] at hy; done)
/-- x in a list of plain data -/
theorem gIn_pb {n : Nat} {ah : AH} {x : D} {l : List D} (hn : n ≤ 60) (hx : pb n x = true) (hl : l.all (pb n) = true) (hs : ∀ z, x ≠ .str z) (hi : ∀ l, (.lst l : D) ≠ x) : gIn ah x (.lst l) = some (.bl (decide (x ∈ l))) := by
  obtain ⟨p, e1, c1, d1⟩ := pb_py n x hx
  obtain ⟨q, e2, c2, d2⟩ := pb_py (n + 1) (.lst l) (by simpa [pb] using hl)
  obtain ⟨ps, e3, rfl⟩ := Option.map_eq_some_iff.mp (show (D.pys l).map PyData.list = some q by simpa [D.py] using e2)
  have sh : (SeqAt.shaped p && SeqAt.shaped (.list ps)) = true := by
    simp only [SeqAt.shaped, Bool.and_eq_true, decide_eq_true_eq]
    exact ⟨⟨c1, by omega⟩, c2, by omega⟩
  have t1 : topPy ah x = some p := by cases x <;> first | exact e1 | (simp [D.py] at e1)
  have anyE : ∀ (l : List D) (ps : List PyData), l.all (pb n) = true → D.pys l = some ps → (ps.any fun z => PyData.eqv z p) = decide (x ∈ l) := fun l => by
    induction l with
    | nil =>
      intro ps _ e
      simp only [D.pys, Option.some.injEq] at e
      subst e
      rfl
    | cons a r ih =>
      intro ps hl e
      simp only [D.pys] at e
      obtain ⟨p', h1, h2⟩ := Option.bind_eq_some_iff.mp e
      obtain ⟨ps', h3, rfl⟩ := Option.map_eq_some_iff.mp h2
      rw [List.all_cons, Bool.and_eq_true] at hl
      rw [List.any_cons, pb_eqv n a x p' p hl.1 hx h1 e1, ih ps' hl.2 h3]
      rw [Bool.eq_iff_iff, Bool.or_eq_true, decide_eq_true_eq, decide_eq_true_eq, decide_eq_true_eq, List.mem_cons]
      exact or_congr ⟨Eq.symm, Eq.symm⟩ Iff.rfl
  have go : dIn ah x (.lst l) = some (decide (x ∈ l)) := by
    have core : ((topPy ah x).bind fun p => (asL ah (.lst l)).bind fun l => (D.pys l).bind fun ps => if (SeqAt.shaped p && SeqAt.shaped (.list ps)) = true then some (ps.any fun z => PyData.eqv z p) else none) = some (decide (x ∈ l)) := by
      rw [t1, Option.bind_some]
      show ((D.pys l).bind _) = _
      rw [e3, Option.bind_some, if_pos sh, anyE l ps hl e3]
    cases x <;> first | exact core | exact absurd rfl (hs _)
  rw [gIn, go]
  rfl
end MM

set_option linter.all false
set_option maxRecDepth 100000
/-! tools for the mirrors over natural numbers -/
namespace MM
open PySem L2
def nD (n : Nat) : D := .int (n : Nat)
theorem bitAnd_n (n m : Nat) : Builtin.bitAnd (n : Int) (m : Int) = ((n &&& m : Nat) : Int) := by
  rw [PyProof.Rows.bitAnd_pp (by omega) (by omega)]
  simp
theorem add_and_or (n m : Nat) : n + m = (n &&& m) + (n ||| m) := by
  induction n using Nat.strongRecOn generalizing m with
  | _ n ih =>
    by_cases h : n = 0
    · subst h; simp
    have e := ih (n / 2) (by omega) (m / 2)
    have a1 : (n &&& m) / 2 = n / 2 &&& m / 2 := Nat.and_div_two
    have a2 : (n ||| m) / 2 = n / 2 ||| m / 2 := Nat.or_div_two
    have b1 : (n &&& m) % 2 = (n % 2) * (m % 2) := by
      have := Nat.and_mod_two_pow (a := n) (b := m) (n := 1)
      rw [Nat.pow_one] at this
      rw [this]
      rcases Nat.mod_two_eq_zero_or_one n with h1 | h1 <;> rcases Nat.mod_two_eq_zero_or_one m with h2 | h2 <;> rw [h1, h2] <;> rfl
    have b2 : (n ||| m) % 2 = n % 2 + m % 2 - (n % 2) * (m % 2) := by
      have := Nat.or_mod_two_pow (a := n) (b := m) (n := 1)
      rw [Nat.pow_one] at this
      rw [this]
      rcases Nat.mod_two_eq_zero_or_one n with h1 | h1 <;> rcases Nat.mod_two_eq_zero_or_one m with h2 | h2 <;> rw [h1, h2] <;> rfl
    rcases Nat.mod_two_eq_zero_or_one n with h1 | h1 <;> rcases Nat.mod_two_eq_zero_or_one m with h2 | h2 <;> rw [h1, h2] at b1 b2 <;> omega
theorem and_le_add (n m : Nat) : (n &&& m) ≤ n + m := by have := add_and_or n m; omega
theorem bitOr_n (n m : Nat) : Builtin.bitOr (n : Int) (m : Int) = ((n ||| m : Nat) : Int) := by
  rw [PyProof.Rows.bitOr_and, bitAnd_n]
  have := add_and_or n m
  omega
theorem or_xor (n m : Nat) : n ||| m = (n ^^^ m) + (n &&& m) := by
  induction n using Nat.strongRecOn generalizing m with
  | _ n ih =>
    by_cases h : n = 0
    · subst h; simp
    have e := ih (n / 2) (by omega) (m / 2)
    have a1 : (n &&& m) / 2 = n / 2 &&& m / 2 := Nat.and_div_two
    have a2 : (n ||| m) / 2 = n / 2 ||| m / 2 := Nat.or_div_two
    have a3 : (n ^^^ m) / 2 = n / 2 ^^^ m / 2 := Nat.xor_div_two
    have b1 : (n &&& m) % 2 = (n % 2) &&& (m % 2) := by simpa using Nat.and_mod_two_pow (a := n) (b := m) (n := 1)
    have b2 : (n ||| m) % 2 = (n % 2) ||| (m % 2) := by simpa using Nat.or_mod_two_pow (a := n) (b := m) (n := 1)
    have b3 : (n ^^^ m) % 2 = (n % 2) ^^^ (m % 2) := by simpa using Nat.xor_mod_two_pow (a := n) (b := m) (n := 1)
    have c : (n ||| m) % 2 = (n ^^^ m) % 2 + (n &&& m) % 2 := by
      rw [b1, b2, b3]
      rcases Nat.mod_two_eq_zero_or_one n with h1 | h1 <;> rcases Nat.mod_two_eq_zero_or_one m with h2 | h2 <;> rw [h1, h2] <;> rfl
    omega
theorem bitXor_n (n m : Nat) : Builtin.bitXor (n : Int) (m : Int) = ((n ^^^ m : Nat) : Int) := by
  unfold Builtin.bitXor
  rw [bitOr_n, bitAnd_n]
  have := or_xor n m
  omega
section
variable {δ : DL} {ah ah1 ah2 : AH} {a b m : ME} {n k : Nat}
theorem andn (h1 : a δ ah = some (nD n, ah1)) (h2 : b δ ah1 = some (nD k, ah2)) : eBin gAnd a b δ ah = some (nD (n &&& k), ah2) := bin_ev h1 h2 (by
  show some (D.int (Builtin.bitAnd (n : Int) (k : Int))) = _
  rw [bitAnd_n]; rfl)
theorem orn (h1 : a δ ah = some (nD n, ah1)) (h2 : b δ ah1 = some (nD k, ah2)) : eBin gOr a b δ ah = some (nD (n ||| k), ah2) := bin_ev h1 h2 (by
  show some (D.int (Builtin.bitOr (n : Int) (k : Int))) = _
  rw [bitOr_n]; rfl)
theorem xorn (h1 : a δ ah = some (nD n, ah1)) (h2 : b δ ah1 = some (nD k, ah2)) : eBin gXor a b δ ah = some (nD (n ^^^ k), ah2) := bin_ev h1 h2 (by
  show some (D.int (Builtin.bitXor (n : Int) (k : Int))) = _
  rw [bitXor_n]; rfl)
theorem shln (h1 : a δ ah = some (nD n, ah1)) (h2 : b δ ah1 = some (nD k, ah2)) (hn : n < 2 ^ 64) (hk : k ≤ 1000000) : eBin gShl a b δ ah = some (nD (n * 2 ^ k), ah2) := bin_ev h1 h2 (by
  show (if (decide (0 ≤ (k : Int) ∧ (k : Int) ≤ 1000000 ∧ (n : Int).natAbs < 2 ^ 64)) = true then some (D.int ((n : Int) * 2 ^ (k : Int).toNat)) else none) = _
  rw [if_pos (by simp; omega)]
  simp [nD])
theorem shrn (h1 : a δ ah = some (nD n, ah1)) (h2 : b δ ah1 = some (nD k, ah2)) : eBin gShr a b δ ah = some (nD (n / 2 ^ k), ah2) := bin_ev h1 h2 (by
  show (if (decide (0 ≤ (k : Int))) = true then some (D.int ((n : Int) / 2 ^ (k : Int).toNat)) else none) = _
  rw [if_pos (by simp)]
  simp [nD])
theorem addn (h1 : a δ ah = some (nD n, ah1)) (h2 : b δ ah1 = some (nD k, ah2)) : eBin gAdd a b δ ah = some (nD (n + k), ah2) := bin_ev h1 h2 (by
  show some (D.int ((n : Int) + (k : Int))) = _
  rw [← Int.natCast_add]; rfl)
theorem subn (h1 : a δ ah = some (nD n, ah1)) (h2 : b δ ah1 = some (nD k, ah2)) (hk : k ≤ n) : eBin gSub a b δ ah = some (nD (n - k), ah2) := bin_ev h1 h2 (by
  show some (D.int ((n : Int) - (k : Int))) = _
  rw [← Int.ofNat_sub hk]; rfl)
theorem muln (h1 : a δ ah = some (nD n, ah1)) (h2 : b δ ah1 = some (nD k, ah2)) (hn : n < 2 ^ 64 ∨ k < 2 ^ 64) : eBin gMul a b δ ah = some (nD (n * k), ah2) := bin_ev h1 h2 (by
  have hc : (-(2 ^ 64) < (n : Int) ∧ (n : Int) < 2 ^ 64) ∨ (-(2 ^ 64) < (k : Int) ∧ (k : Int) < 2 ^ 64) := by omega
  simp only [gMul, nD]
  rw [if_pos hc, ← Int.natCast_mul])
theorem cn (n : Nat) : eC (.int (n : Nat)) δ ah = some (nD n, ah) := rfl
theorem bitn (h : m δ ah = some (nD n, ah1)) (hn : 0 < n) : e1 gBits m δ ah = some (nD (n.log2 + 1), ah1) := e1_ev h (by
  show some (D.int ((Builtin.Int.intBits (n : Int) : Nat) : Int)) = _
  unfold Builtin.Int.intBits
  rw [if_neg (by simp; omega)]
  simp [nD])
/-- number & 2 ** k != 0 -/
theorem bit_testE (h1 : a δ ah = some (nD n, ah1)) (h2 : b δ ah1 = some (nD (2 ^ k), ah2)) : eBin gNe (eBin gAnd a b) (eC (.int 0)) δ ah = some (.bl (n.testBit k), ah2) := by
  refine ((bin_ev (andn h1 h2) (y := .int 0) rfl (z := .bl (!decide (((n &&& 2 ^ k : Nat) : Int) = 0))) rfl).trans ?_)
  congr 3
  cases e : n.testBit k with
  | false =>
    have : n &&& 2 ^ k = 0 := Nat.eq_of_testBit_eq fun i => by
      rw [Nat.testBit_and, Nat.testBit_two_pow, Nat.zero_testBit]
      by_cases hi : k = i
      · rw [← hi, e]; rfl
      · simp [hi]
    rw [this]
    rfl
  | true =>
    have : n &&& 2 ^ k ≠ 0 := fun q => by
      have : (n &&& 2 ^ k).testBit k = true := by rw [Nat.testBit_and, e, Nat.testBit_two_pow]; simp
      rw [q, Nat.zero_testBit] at this
      cases this
    rw [decide_eq_false (by omega)]
    rfl
theorem bit_test (h1 : a δ ah = some (nD n, ah1)) (h2 : b δ ah1 = some (nD (2 ^ k), ah2)) : tOf (eBin gNe (eBin gAnd a b) (eC (.int 0))) δ ah = some (n.testBit k, ah2) := tof_ev (bit_testE h1 h2)
theorem eqn (h1 : a δ ah = some (nD n, ah1)) (h2 : b δ ah1 = some (nD k, ah2)) : tOf (eBin gEq a b) δ ah = some (decide (n = k), ah2) := by
  refine tof_ev ((bin_ev h1 h2 (z := .bl (decide ((n : Int) = (k : Int)))) rfl).trans ?_)
  congr 3
  exact decide_eq_decide.mpr (by omega)
theorem nen (h1 : a δ ah = some (nD n, ah1)) (h2 : b δ ah1 = some (nD k, ah2)) : tOf (eBin gNe a b) δ ah = some (!decide (n = k), ah2) := by
  refine tof_ev ((bin_ev h1 h2 (z := .bl (!decide ((n : Int) = (k : Int)))) rfl).trans ?_)
  congr 4
  exact decide_eq_decide.mpr (by omega)
end
/-- a loop that changes a state -/
theorem for_fold {α β : Type} {g : D → DL → Option DL} {b : MS} {i : α → D} {f : β → α → β} {J : β → DL → Prop} {ah : AH} : ∀ {l : List α} {s : β} {δ : DL}, J s δ → (∀ x ∈ l, ∀ s δ, J s δ → ∃ δ1 δ2, g (i x) δ = some δ1 ∧ b δ1 ah = some (.nx δ2, ah) ∧ J (f s x) δ2) →
    ∃ δ', forGo g b (l.map i) δ ah = some (.nx δ', ah) ∧ J (l.foldl f s) δ'
  | [], s, δ, h, _ => ⟨δ, rfl, h⟩
  | x :: r, s, δ, h, st => by
    obtain ⟨δ1, δ2, h1, h2, h3⟩ := st x (List.mem_cons_self ..) s δ h
    obtain ⟨δ', k1, k2⟩ := for_fold (i := i) (l := r) h3 fun y hy => st y (List.mem_cons_of_mem _ hy)
    exact ⟨δ', by simp only [List.map_cons, forGo, h1, h2, k1, Option.bind_some], k2⟩
/-- sorted, of ints from naturals -/
theorem insBy_map {α β : Type} {le : α → α → Bool} {le' : β → β → Bool} {f : α → β} (e : ∀ a b, le' (f a) (f b) = le a b) (x : α) : ∀ l : List α, insBy le' (f x) (l.map f) = (insBy le x l).map f
  | [] => rfl
  | y :: r => by
    simp only [List.map_cons, insBy, e]
    split
    · rfl
    · rw [insBy_map e x r]; rfl
theorem sortBy_map {α β : Type} {le : α → α → Bool} {le' : β → β → Bool} {f : α → β} (e : ∀ a b, le' (f a) (f b) = le a b) : ∀ l : List α, sortBy le' (l.map f) = (sortBy le l).map f
  | [] => rfl
  | x :: r => by
    rw [List.map_cons]
    show insBy le' (f x) (sortBy le' (r.map f)) = (insBy le x (sortBy le r)).map f
    rw [sortBy_map e r, insBy_map e]
theorem intsOf_n : ∀ l : List Nat, intsOf (l.map nD) = some (l.map fun (n : Nat) => (n : Int))
  | [] => rfl
  | x :: r => by
    rw [List.map_cons]
    show Option.map _ (intsOf (r.map nD)) = _
    rw [intsOf_n r]
    rfl
theorem sortR_n {m : ME} {δ : DL} {ah ah1 : AH} {l : List Nat} (h : m δ ah = some (.lst (l.map nD), ah1)) : fSortedR m δ ah = some ((sortBy LM.geN l).map nD, ah1) := by
  unfold fSortedR
  rw [h, Option.bind_some]
  show (Option.bind (some (l.map nD)) _) = _
  rw [Option.bind_some, intsOf_n, Option.map_some]
  have := sortBy_map (le := LM.geN) (le' := geI) (f := fun (n : Nat) => (n : Int)) (fun a b => by simp [geI, LM.geN]) l
  show some ((sortBy geI (l.map fun (n : Nat) => (n : Int))).map D.int, ah1) = _
  rw [this, List.map_map]
  rfl
end MM

set_option linter.all false
set_option maxRecDepth 100000
namespace LM
open PySem L2 MM
def mv1 (n : Nat) (f : Nat) (m : Nat × Nat) : Nat := if n &&& m.1 = 0 then f else f ||| m.2
def moved (mv : List (Nat × Nat)) (n : Nat) : Nat := mv.foldl (mv1 n) 0
theorem moved_go {B n : Nat} : ∀ {mv : List (Nat × Nat)} {f : Nat}, (∀ m ∈ mv, m.2 < 2 ^ B) → f < 2 ^ B → mv.foldl (mv1 n) f < 2 ^ B
  | [], f, _, h => h
  | m :: r, f, hm, h => by
    refine moved_go (mv := r) (fun x hx => hm x (List.mem_cons_of_mem _ hx)) ?_
    unfold mv1
    split
    · exact h
    · exact Nat.or_lt_two_pow h (hm m (List.mem_cons_self ..))
theorem moved_lt {B n : Nat} {mv : List (Nat × Nat)} (h : ∀ m ∈ mv, m.2 < 2 ^ B) : moved mv n < 2 ^ B := moved_go h (Nat.two_pow_pos B)
/-- a number from bits, the greatest first -/
def valB (l : List Bool) (s : Nat) : Nat := l.foldl (fun n b => 2 * n + b.toNat) s
theorem valB_lt : ∀ {l : List Bool} {s k : Nat}, s < 2 ^ k → valB l s < 2 ^ (k + l.length)
  | [], s, k, h => h
  | b :: r, s, k, h => by
    have : 2 * s + b.toNat < 2 ^ (k + 1) := by
      rw [Nat.pow_succ]
      cases b <;> simp <;> omega
    have := valB_lt (l := r) this
    show valB r (2 * s + b.toNat) < 2 ^ (k + (r.length + 1))
    rw [show k + (r.length + 1) = k + 1 + r.length from by omega]
    exact this
/-- walks that join -/
def joinAll (f : Nat → List (Nat × Nat) → Nat) (ws : List (List (Nat × Nat))) (L : List Nat) (n : Nat) : List Nat := ws.foldl (fun L m => join L (f n m)) L
theorem Pl.joinAll {B n : Nat} {f : Nat → List (Nat × Nat) → Nat} : ∀ {ws : List (List (Nat × Nat))} {L : List Nat}, Pl B L → (∀ m ∈ ws, f n m < 2 ^ B) → Pl B (joinAll f ws L n)
  | [], _, h, _ => h
  | m :: r, L, h, hm => Pl.joinAll (ws := r) (L := LM.join L (f n m)) (Pl.join h (hm m (List.mem_cons_self ..))) fun x hx => hm x (List.mem_cons_of_mem _ hx)
theorem Pl.joinAlls {B : Nat} {f : Nat → List (Nat × Nat) → Nat} {ws : List (List (Nat × Nat))} : ∀ {ns L : List Nat}, Pl B L → (∀ n ∈ ns, ∀ m ∈ ws, f n m < 2 ^ B) → Pl B (ns.foldl (LM.joinAll f ws) L)
  | [], _, h, _ => h
  | n :: r, L, h, hm => Pl.joinAlls (ns := r) (L := LM.joinAll f ws L n) (Pl.joinAll h (hm n (List.mem_cons_self ..))) fun x hx => hm x (List.mem_cons_of_mem _ hx)
def combAt (rows : List Nat) (k : Nat) : Nat := rows.foldl (fun f r => if r.testBit k = true then f ||| 2 ^ r.log2 else f) (2 ^ k)
def firsts (rows : List Nat) : Nat := rows.foldl (fun f r => f ||| 2 ^ r.log2) 0
theorem comb_go {B k : Nat} : ∀ {rows : List Nat} {f : Nat}, (∀ r ∈ rows, 0 < r ∧ r < 2 ^ B) → f < 2 ^ B → rows.foldl (fun f r => if r.testBit k = true then f ||| 2 ^ r.log2 else f) f < 2 ^ B
  | [], f, _, h => h
  | r :: l, f, hr, h => by
    refine comb_go (rows := l) (fun x hx => hr x (List.mem_cons_of_mem _ hx)) ?_
    have := hr r (List.mem_cons_self ..)
    show (if r.testBit k = true then f ||| 2 ^ r.log2 else f) < _
    split
    · exact Nat.or_lt_two_pow h (Nat.pow_lt_pow_right (by decide) ((Nat.log2_lt (by omega)).mpr this.2))
    · exact h
theorem comb_lt {B k : Nat} {rows : List Nat} (h : Pl B rows) (hk : k < B) : combAt rows k < 2 ^ B := comb_go (fun r hr => ⟨h.pos r hr, h.lt r hr⟩) (Nat.pow_lt_pow_right (by decide) hk)
/-- those apart, and the rows behind -/
def apart1 (s : List Nat × List Nat) (n : Nat) : List Nat × List Nat := if sift s.1 n = 0 then s else (join s.1 n, s.2 ++ [n])
def apart (rows ns : List Nat) : List Nat := (ns.foldl apart1 (rows, [])).2
theorem apart_mem : ∀ {ns : List Nat} {s : List Nat × List Nat}, ∀ x ∈ (ns.foldl apart1 s).2, x ∈ s.2 ∨ x ∈ ns
  | [], s, x, h => .inl h
  | n :: r, s, x, h => by
    rcases apart_mem (ns := r) (s := apart1 s n) x h with h | h
    · unfold apart1 at h
      split at h
      · exact .inl h
      · rcases List.mem_append.mp h with h | h
        · exact .inl h
        · exact .inr (by rw [List.mem_singleton.mp h]; exact List.mem_cons_self ..)
    · exact .inr (List.mem_cons_of_mem _ h)
theorem apart_len : ∀ {ns : List Nat} {s : List Nat × List Nat}, (ns.foldl apart1 s).2.length ≤ s.2.length + ns.length
  | [], s => Nat.le_refl _
  | n :: r, s => by
    have := apart_len (ns := r) (s := apart1 s n)
    have h : (apart1 s n).2.length ≤ s.2.length + 1 := by
      unfold apart1
      split
      · omega
      · simp
    show (r.foldl apart1 (apart1 s n)).2.length ≤ s.2.length + (r.length + 1)
    omega
theorem Pl.apart1 {B n : Nat} {s : List Nat × List Nat} (h : Pl B s.1) (hn : n < 2 ^ B) : Pl B (apart1 s n).1 := by
  unfold LM.apart1
  split
  · exact h
  · exact Pl.join h hn
/-- the member of a number -/
def memb1 (s : Nat × Nat) (r : Nat) : Nat × Nat := (s.1 / 2, if s.1 % 2 = 1 then s.2 ^^^ r else s.2)
def memb (rows : List Nat) (n : Nat) : Nat := (rows.reverse.foldl memb1 (n, 0)).2
def numb (rows : List Nat) (n : Nat) : Nat := rows.foldl (fun f r => 2 * f + (n.testBit r.log2).toNat) 0
end LM

set_option linter.all false
set_option maxRecDepth 100000
namespace MM
open PySem L2
/-! ### walks over a list that may be changed elsewhere: looked at in every turn -/
abbrev MAC := DL → AH → Option ((List D × (AH → Bool)) × AH)
def DriveC (G : Gx) (s : S) (ds : List D) (C : AH → Bool) (J : It) : Prop := ∀ s2, Gr s s2 → Ok G s2 → C s2.ah = true → (∀ i, i < ds.length → J.go i s2.H) ∧ J.stop ds.length s2.H ∧ ∀ i d x H', ds[i]? = some d → J.yld i s2.H x H' → Le G s2 { s2 with H := H' } ∧ DV G { s2 with H := H' } d x
def RIc (X : Cx) (cl : Str → Option Addr) (tg iter : Expr) (m : MAC) : Prop := ∀ (δ : DL) (s : S) (σ : St) (ds : List D) (C : AH → Bool) (ah' : AH) (R : It → Hp → Prop), m δ s.ah = some ((ds, C), ah') → Ok (gx X cl) s → SV (gx X cl) s δ σ →
  (∀ s' J, Le (gx X cl) s s' → s'.ah = ah' → DriveC (gx X cl) s' ds C J → R J s'.H) → ∃ wi, PI X tg iter wi ∧ wi σ s.H R
def iPtr (m : ME) : MAC := fun δ ah => (m δ ah).bind fun p => match p.1 with
  | .ptr n => (lstAt p.2 n).map fun l => ((l, fun ah => decide (lstAt ah n = some l)), p.2)
  | _ => none
section
variable {X : Cx} {cl : Str → Option Addr} {tg iter : Expr} {ma : ME}
theorem ri_ptr (h : RE X cl iter ma) : RIc X cl tg iter (iPtr ma) := fun δ s σ ds C ah' R h' ok sv q => by
  obtain ⟨⟨z, za⟩, h1, h2⟩ := Option.bind_eq_some_iff.mp h'
  cases z with
  | ptr n =>
    obtain ⟨l, h3, h4⟩ := Option.map_eq_some_iff.mp h2
    obtain ⟨e1, e2⟩ := Prod.mk.inj h4
    obtain ⟨e3, e4⟩ := Prod.mk.inj e1
    subst e3 e4
    have e2 : za = ah' := e2
    subst e2
    refine ⟨_, pi_list peW, h δ s σ _ _ _ h1 ok sv fun s1 v l1 e1 d1 => ?_⟩
    cases d1 with
    | @ptr _ a ea =>
      have look : ∀ s2, Gr s1 s2 → Ok (gx X cl) s2 → lstAt s2.ah n = some l → ∃ vs, s2.H a = some (.lst vs) ∧ DVs (gx X cl) s2 l vs := fun s2 g ok2 e => ok2.obj n a _ (g.pre n a ea) (lstAt_some e)
      obtain ⟨vs0, hv0, hs0⟩ := look s1 Gr.refl l1.ok (by rw [e1]; exact h3)
      refine ⟨a, rfl, ⟨vs0, .inl (.inl hv0)⟩, q s1 _ l1 e1 fun s2 g ok2 hC => ?_⟩
      obtain ⟨vs, hv, hs⟩ := look s2 g ok2 (of_decide_eq_true hC)
      have sq : SqL (gx X cl).K s2.H a vs := .inl (.inl hv)
      refine ⟨fun i hi => ?_, ⟨vs, sq, by rw [hs.len]; exact Nat.le_refl _⟩, fun i d x H' hd hy => ?_⟩
      · obtain ⟨x, hx⟩ := hs.some_at hi
        exact ⟨vs, x, sq, hx⟩
      · exact same_yield Gr.refl ok2 hy.1 (hs.at hd (hy.2 vs sq))
  | _ => cases h2
end
def compGoC (C : AH → Bool) (g : D → DL → Option DL) (t : MT) (e : ME) (δ : DL) : List D → MAH
  | [] => fun ah => if C ah = true then some ([], ah) else none
  | d :: r => fun ah => if C ah = true then (g d δ).bind fun δ1 => (t δ1 ah).bind fun p => if p.1 = true then (e δ1 p.2).bind fun q => (compGoC C g t e δ r q.2).map fun x => (q.1 :: x.1, x.2) else compGoC C g t e δ r p.2 else none
def fCompC (mi : MAC) (g : D → DL → Option DL) (t : MT) (e : ME) (vs : List Nat) : MA := fun δ ah => (mi δ ah).bind fun p => if p.1.1.length ≤ 100000 then compGoC p.1.2 g t e (wipeD δ vs) p.1.1 p.2 else none
section
variable {X : Cx} {cl : Str → Option Addr} {elt tg iter : Expr} {ifs : List Expr} {scope : Scope} {own : List (Str × Nat)} {pos : Pos} {mi : MAC} {g : D → DL → Option DL} {t : MT} {e : ME} {Ts : List Nat}
theorem lc_readC {vs : List Nat} (hi : RIc X cl tg iter mi) (hg : ∀ s H C cl' fp, RG (BCx X scope s H C cl' fp) cl tg Ts g) (ht : ∀ s H C cl' fp, RTs (BCx X scope s H C cl' fp) cl ifs t) (he : ∀ s H C cl' fp, RE (BCx X scope s H C cl' fp) cl elt e) (hsub : ∀ i ∈ Ts, i ∈ vs)
    {δ : DL} {s : S} {σ : St} {ds : List D} {ah' : AH} {Q : VK} (h : fCompC mi g t e vs δ s.ah = some (ds, ah')) (ok : Ok (gx X cl) s) (sv : SV (gx X cl) s δ σ) (q : ∀ s1 p vs, Le (gx X cl) s s1 → s1.ah = ah' → s1.H p = none → DVs (gx X cl) s1 ds vs → Q (.ref p) (upd s1.H p (.lst vs))) :
    tLc (wI X tg iter) (uG X scope tg) (uT X scope ifs) (uE X scope elt) vs σ s.H Q := by
  obtain ⟨⟨⟨items, C⟩, ah1⟩, h1, h2⟩ := Option.bind_eq_some_iff.mp h
  split at h2
  case isFalse => cases h2
  rename_i hlen
  have hlen : items.length ≤ 100000 := hlen
  have h2 : compGoC C g t e (wipeD δ vs) items ah1 = some (ds, ah') := h2
  refine hi δ s σ items C ah1 _ h1 ok sv fun s1 J l1 e1 drv Dl hD => ?_
  refine ⟨fun i m H => ∃ s2 acc rest, s2.H = H ∧ i + m = items.length ∧ Side (gx X cl) s1 s2 Dl acc ∧ acc.length ≤ i ∧ compGoC C g t e (wipeD δ vs) (items.drop i) s2.ah = some (rest, ah') ∧ ds = acc ++ rest,
    ⟨items.length, _, [], ds, rfl, Nat.zero_add _, side_start l1.ok hD, Nat.le_refl _, by rw [List.drop_zero]; show compGoC C g t e (wipeD δ vs) items s1.ah = _; rw [e1]; exact h2, rfl⟩, fun i m H hW => ?_⟩
  obtain ⟨s2, acc, rest, rfl, him, sd, hac, hgo, hds⟩ := hW
  by_cases hi : i < items.length
  · rw [List.drop_eq_getElem_cons hi] at hgo
    unfold compGoC at hgo
    split at hgo
    case isFalse => cases hgo
    rename_i hC
    obtain ⟨d1, d2, d3⟩ := drv s2 (sd.gr hD) sd.ok hC
    refine .inr ⟨d1 i hi, fun H' => ∃ s2 acc rest, s2.H = H' ∧ (i + 1) + (m - 1) = items.length ∧ Side (gx X cl) s1 s2 Dl acc ∧ acc.length ≤ i + 1 ∧ compGoC C g t e (wipeD δ vs) (items.drop (i + 1)) s2.ah = some (rest, ah') ∧ ds = acc ++ rest, fun H' hN => ⟨m - 1, by omega, hN⟩, fun x H' hy => ?_⟩
    obtain ⟨l3, dv3⟩ := d3 i items[i] x H' (List.getElem?_eq_getElem hi) hy
    obtain ⟨δ1, k1, k2⟩ := Option.bind_eq_some_iff.mp hgo
    obtain ⟨⟨b, ahb⟩, k3, k4⟩ := Option.bind_eq_some_iff.mp k2
    have sd3 := sd.le l3
    have g3 := sd3.gr hD
    have sv3 : SV (gx X cl) { s2 with H := H' } (wipeD δ vs) (L2.wipe σ vs) := ((sv.le l1).mono g3).wipe vs
    intro sa Ha Ca cla fpa
    refine hg sa Ha Ca cla fpa items[i] x (wipeD δ vs) δ1 { s2 with H := H' } (L2.wipe σ vs) _ k1 sd3.ok dv3 sv3 fun σ2 sv4 hl4 hk4 => ⟨by rw [wipe_same hl4 hk4 hsub, wipe_wipe], ?_⟩
    intro sb Hb Cb clb fpb
    refine ht sb Hb Cb clb fpb δ1 { s2 with H := H' } σ2 b ahb _ k3 sd3.ok sv4 fun s4 l4 e4 => ?_
    have sd4 := sd3.le l4
    cases b with
    | true =>
      rw [if_pos rfl]
      rw [if_pos rfl] at k4
      obtain ⟨⟨y, ahy⟩, k5, k6⟩ := Option.bind_eq_some_iff.mp k4
      obtain ⟨⟨r2, ahr⟩, k7, k8⟩ := Option.map_eq_some_iff.mp k6
      obtain ⟨rfl, rfl⟩ := Prod.mk.inj k8
      intro sc Hc Cc clc fpc
      refine he sc Hc Cc clc fpc δ1 s4 σ2 y ahy _ (by rw [e4]; exact k5) sd4.ok (sv4.le l4) fun s5 v l5 e5 dv5 => ?_
      have sd5 := sd4.le l5
      obtain ⟨vs5, hv5, hs5⟩ := sd5.at_
      refine ⟨vs5, hv5, ?_, s5.up Dl (.lst (vs5 ++ [v])), acc ++ [y], r2, rfl, by omega, sd5.app hD dv5 hv5 hs5, by rw [List.length_append, List.length_singleton]; omega, ?_, by rw [hds, List.append_assoc]; rfl⟩
      · rw [← hs5.len]
        exact Nat.lt_of_lt_of_le (by omega) line100k
      · show compGoC C g t e (wipeD δ vs) (items.drop (i + 1)) s5.ah = _
        rw [e5]
        exact k7
    | false =>
      rw [if_neg Bool.false_ne_true]
      rw [if_neg Bool.false_ne_true] at k4
      exact ⟨s4, acc, rest, rfl, by omega, sd4, by omega, by rw [e4]; exact k4, hds⟩
  · have hi' : i = items.length := by omega
    subst hi'
    rw [List.drop_length] at hgo
    unfold compGoC at hgo
    split at hgo
    case isFalse => cases hgo
    rename_i hC
    obtain ⟨d1, d2, d3⟩ := drv s2 (sd.gr hD) sd.ok hC
    obtain ⟨rfl, e2⟩ := Prod.mk.inj (Option.some.inj hgo)
    refine .inl ⟨d2, ?_⟩
    obtain ⟨s3, vs3, l3, e3, hp3, hs3, eH⟩ := sd.done l1.ok hD
    rw [eH]
    rw [List.append_nil] at hds
    subst hds
    exact q s3 Dl vs3 (l1.trans l3) (by rw [e3, e2]) hp3 hs3
theorem rf_lcC {vs : List Nat} (hv : own.map (·.2) = vs) (hc : X.calm = true) (hN : X.N.Nodup) (bk : BlkOk X.N X.env.scope scope own) (hi : RIc X cl tg iter mi) (hg : ∀ s H C cl' fp, RG (BCx X scope s H C cl' fp) cl tg Ts g) (ht : ∀ s H C cl' fp, RTs (BCx X scope s H C cl' fp) cl ifs t) (he : ∀ s H C cl' fp, RE (BCx X scope s H C cl' fp) cl elt e) (hsub : ∀ i ∈ Ts, i ∈ vs)
    (hs : ∀ x, foldedSetIterable iter X.env x = pure x := by intro _; rfl) : RF X cl (.ListComp elt [⟨tg, iter, ifs, 0⟩] scope pos) (fCompC mi g t e vs) := fun δ s σ ds ah' Q h ok sv q => by
  subst hv
  exact WE.of (pe_lc hc hN pi_any bk pg_u pts_u pe_u hs) (lc_readC hi hg ht he hsub h ok sv q)
end
theorem rf_orF {X : Cx} {cl : Str → Option Addr} {e : Expr} {m m' : MA} (h1 : RF X cl e m) (h2 : RF X cl e m') : RF X cl e (orA m m') := fun δ s σ ds ah' Q h ok sv q => by
  unfold orA at h
  split at h
  · rename_i r e1
    cases h
    exact h1 δ s σ ds ah' Q e1 ok sv q
  · exact h2 δ s σ ds ah' Q h ok sv q
/-- a walk by a loop over such a list -/
def forGoC (C : AH → Bool) (g : D → DL → Option DL) (b : MS) : List D → MS
  | [] => fun δ ah => if C ah = true then some (.nx δ, ah) else none
  | d :: r => fun δ ah => if C ah = true then (g d δ).bind fun δ1 => (b δ1 ah).bind fun p => match p.1 with
    | .nx δ2 => forGoC C g b r δ2 p.2
    | .ct δ2 => forGoC C g b r δ2 p.2
    | .bk δ2 => some (.nx δ2, p.2)
    | .rt d => some (.rt d, p.2) else none
end MM

set_option Elab.async false
set_option linter.all false
set_option maxRecDepth 100000
set_option maxHeartbeats 0
namespace K19
open PySem L2 MM
/-! ### 1. the text by places -/
def top (i : Nat) : Stmt := PySem.Challenge.pw_faceonface_k19_whole_told_lots.main.body.getD i (.Pass ⟨0, 0, 0, 0⟩)
abbrev st__law_bag : Stmt := top 51
abbrev st__law_take : Stmt := top 52
abbrev st__law_box : Stmt := top 53
abbrev st__law_face : Stmt := top 54
abbrev st__law_turnings : Stmt := top 57
abbrev st__law_spun : Stmt := top 55
abbrev st__law_images : Stmt := top 58
abbrev st__law_over : Stmt := top 56
abbrev st__law_whole : Stmt := top 59
abbrev st__law_seeds : Stmt := top 60
abbrev st_is_whole : Stmt := top 5
abbrev st_is_side : Stmt := top 6
abbrev st_is_box : Stmt := top 7
abbrev st_is_face_row : Stmt := top 8
abbrev st_is_face : Stmt := top 9
abbrev st_is_face_of : Stmt := top 10
abbrev st_are_box_faces : Stmt := top 43
abbrev st_bits_of : Stmt := top 17
abbrev st_quarters : Stmt := top 14
abbrev st_turnings_of : Stmt := top 15
abbrev st_bit_cells : Stmt := top 20
abbrev st_cell_bit : Stmt := top 19
abbrev st_exchanges : Stmt := top 13
abbrev st_turned_cell : Stmt := top 21
abbrev st_moves_of : Stmt := top 22
abbrev st_all_moves : Stmt := top 35
abbrev st_moved_bits : Stmt := top 23
abbrev st_top_bit : Stmt := top 24
abbrev st_sifted : Stmt := top 25
abbrev st_joined_rows : Stmt := top 26
abbrev st_lot_rows : Stmt := top 36
abbrev st_Lot___init__ : Stmt := inClass (top 45) 0
abbrev st_core_rows : Stmt := top 37
abbrev st_lot_from : Stmt := top 44
abbrev st_Lot_core : Stmt := inClass (top 45) 5
abbrev st_plain_rows : Stmt := top 27
abbrev st_still_rows : Stmt := top 38
abbrev st_comb_at : Stmt := top 39
abbrev st_against_rows : Stmt := top 40
abbrev st_met_rows : Stmt := top 41
abbrev st_Lot_still : Stmt := inClass (top 45) 6
abbrev st_Lot_against : Stmt := inClass (top 45) 7
abbrev st_need_like : Stmt := top 46
abbrev st_joined : Stmt := top 47
abbrev st_met : Stmt := top 48
abbrev st_Lot_layers : Stmt := inClass (top 45) 8
abbrev st__law_told_lots : Stmt := top 62
abbrev st_face_from : Stmt := top 18
abbrev st_Lot_rows : Stmt := inClass (top 45) 2
abbrev st_Lot_doublings : Stmt := inClass (top 45) 3
abbrev st_Lot_box : Stmt := inClass (top 45) 1
abbrev st__law_alike_right : Stmt := top 64
abbrev st_apart_over : Stmt := top 42
abbrev st_Lot_makers : Stmt := inClass (top 45) 9
abbrev st__law_makers_right : Stmt := top 63
abbrev st_Lot_member : Stmt := inClass (top 45) 10
abbrev st_Lot_has : Stmt := inClass (top 45) 4
abbrev st_Lot_number_of : Stmt := inClass (top 45) 11
abbrev st_Lot_comb : Stmt := inClass (top 45) 12
abbrev st__law_odd : Stmt := top 61
abbrev st__law_faces_right : Stmt := top 65
abbrev st_alike : Stmt := top 49
abbrev st__law_pairs_right : Stmt := top 66
abbrev st_law : Stmt := top 67
theorem sc__law_bag : FnScope ["script", "cell"] ["script"] (defScope st__law_bag) := ⟨rfl, rfl, rfl, by decide +kernel, rfl, by decide +kernel, by decide +kernel⟩
theorem sc__law_take : FnScope ["bag", "many", "first", "second", "cell", "value"] ["bag", "many"] (defScope st__law_take) := ⟨rfl, rfl, rfl, by decide +kernel, rfl, by decide +kernel, by decide +kernel⟩
theorem sc__law_box : FnScope ["bag", "most", "wide"] ["bag", "most"] (defScope st__law_box) := ⟨rfl, rfl, rfl, by decide +kernel, rfl, by decide +kernel, by decide +kernel⟩
theorem sc__law_face : FnScope ["bag", "box", "part", "rows", "at", "y", "x"] ["bag", "box"] (defScope st__law_face) := ⟨rfl, rfl, rfl, by decide +kernel, rfl, by decide +kernel, by decide +kernel⟩
theorem sc__law_turnings : FnScope ["box"] ["box"] (defScope st__law_turnings) := ⟨rfl, rfl, rfl, by decide +kernel, rfl, by decide +kernel, by decide +kernel⟩
theorem sc__law_spun : FnScope ["face", "turning", "cells", "y", "wide", "high", "quarter", "x"] ["face", "turning"] (defScope st__law_spun) := ⟨rfl, rfl, rfl, by decide +kernel, rfl, by decide +kernel, by decide +kernel⟩
theorem sc__law_images : FnScope ["face", "turning"] ["face"] (defScope st__law_images) := ⟨rfl, rfl, rfl, by decide +kernel, rfl, by decide +kernel, by decide +kernel⟩
theorem sc__law_over : FnScope ["one", "other", "rows", "y", "x"] ["one", "other"] (defScope st__law_over) := ⟨rfl, rfl, rfl, by decide +kernel, rfl, by decide +kernel, by decide +kernel⟩
theorem sc__law_whole : FnScope ["some", "rows", "y", "x", "face"] ["some"] (defScope st__law_whole) := ⟨rfl, rfl, rfl, by decide +kernel, rfl, by decide +kernel, by decide +kernel⟩
theorem sc__law_seeds : FnScope ["bag", "box", "most", "found", "k", "way_of", "face", "some"] ["bag", "box", "most"] (defScope st__law_seeds) := ⟨rfl, rfl, rfl, by decide +kernel, rfl, by decide +kernel, by decide +kernel⟩
theorem sc_is_whole : FnScope ["thing"] ["thing"] (defScope st_is_whole) := ⟨rfl, rfl, rfl, by decide +kernel, rfl, by decide +kernel, by decide +kernel⟩
theorem sc_is_side : FnScope ["thing"] ["thing"] (defScope st_is_side) := ⟨rfl, rfl, rfl, by decide +kernel, rfl, by decide +kernel, by decide +kernel⟩
theorem sc_is_box : FnScope ["thing"] ["thing"] (defScope st_is_box) := ⟨rfl, rfl, rfl, by decide +kernel, rfl, by decide +kernel, by decide +kernel⟩
theorem sc_is_face_row : FnScope ["thing", "sign"] ["thing"] (defScope st_is_face_row) := ⟨rfl, rfl, rfl, by decide +kernel, rfl, by decide +kernel, by decide +kernel⟩
theorem sc_is_face : FnScope ["thing", "row"] ["thing"] (defScope st_is_face) := ⟨rfl, rfl, rfl, by decide +kernel, rfl, by decide +kernel, by decide +kernel⟩
theorem sc_is_face_of : FnScope ["box", "thing"] ["box", "thing"] (defScope st_is_face_of) := ⟨rfl, rfl, rfl, by decide +kernel, rfl, by decide +kernel, by decide +kernel⟩
theorem sc_are_box_faces : FnScope ["box", "thing", "face"] ["box", "thing"] (defScope st_are_box_faces) := ⟨rfl, rfl, rfl, by decide +kernel, rfl, by decide +kernel, by decide +kernel⟩
theorem sc_bits_of : FnScope ["face", "number", "row", "sign"] ["face"] (defScope st_bits_of) := ⟨rfl, rfl, rfl, by decide +kernel, rfl, by decide +kernel, by decide +kernel⟩
theorem sc_quarters : FnScope ["turning"] ["turning"] (defScope st_quarters) := ⟨rfl, rfl, rfl, by decide +kernel, rfl, by decide +kernel, by decide +kernel⟩
theorem sc_turnings_of : FnScope ["box", "wide", "high", "turning"] ["box"] (defScope st_turnings_of) := ⟨rfl, rfl, rfl, by decide +kernel, rfl, by decide +kernel, by decide +kernel⟩
theorem sc_bit_cells : FnScope ["box", "wide", "high", "y", "x"] ["box"] (defScope st_bit_cells) := ⟨rfl, rfl, rfl, by decide +kernel, rfl, by decide +kernel, by decide +kernel⟩
theorem sc_cell_bit : FnScope ["box", "cell", "wide", "high", "x", "y"] ["box", "cell"] (defScope st_cell_bit) := ⟨rfl, rfl, rfl, by decide +kernel, rfl, by decide +kernel, by decide +kernel⟩
theorem sc_exchanges : FnScope ["turning"] ["turning"] (defScope st_exchanges) := ⟨rfl, rfl, rfl, by decide +kernel, rfl, by decide +kernel, by decide +kernel⟩
theorem sc_turned_cell : FnScope ["box", "cell", "turning", "wide", "high", "x", "y", "quarter"] ["box", "cell", "turning"] (defScope st_turned_cell) := ⟨rfl, rfl, rfl, by decide +kernel, rfl, by decide +kernel, by decide +kernel⟩
theorem sc_moves_of : FnScope ["box", "turning", "cell"] ["box", "turning"] (defScope st_moves_of) := ⟨rfl, rfl, rfl, by decide +kernel, rfl, by decide +kernel, by decide +kernel⟩
theorem sc_all_moves : FnScope ["box", "turning"] ["box"] (defScope st_all_moves) := ⟨rfl, rfl, rfl, by decide +kernel, rfl, by decide +kernel, by decide +kernel⟩
theorem sc_moved_bits : FnScope ["number", "moves", "found", "here", "there"] ["number", "moves"] (defScope st_moved_bits) := ⟨rfl, rfl, rfl, by decide +kernel, rfl, by decide +kernel, by decide +kernel⟩
theorem sc_top_bit : FnScope ["number"] ["number"] (defScope st_top_bit) := ⟨rfl, rfl, rfl, by decide +kernel, rfl, by decide +kernel, by decide +kernel⟩
theorem sc_sifted : FnScope ["rows", "number", "row"] ["rows", "number"] (defScope st_sifted) := ⟨rfl, rfl, rfl, by decide +kernel, rfl, by decide +kernel, by decide +kernel⟩
theorem sc_joined_rows : FnScope ["rows", "number", "rest", "top", "found", "row"] ["rows", "number"] (defScope st_joined_rows) := ⟨rfl, rfl, rfl, by decide +kernel, rfl, by decide +kernel, by decide +kernel⟩
theorem sc_lot_rows : FnScope ["box", "numbers", "found", "ways", "number", "way"] ["box", "numbers"] (defScope st_lot_rows) := ⟨rfl, rfl, rfl, by decide +kernel, rfl, by decide +kernel, by decide +kernel⟩
theorem sc_Lot___init__ : FnScope ["self", "box", "faces", "face"] ["self", "box", "faces"] (defScope st_Lot___init__) := ⟨rfl, rfl, rfl, by decide +kernel, rfl, by decide +kernel, by decide +kernel⟩
theorem sc_core_rows : FnScope ["box", "rows", "found", "ways", "row", "way"] ["box", "rows"] (defScope st_core_rows) := ⟨rfl, rfl, rfl, by decide +kernel, rfl, by decide +kernel, by decide +kernel⟩
theorem sc_lot_from : FnScope ["box", "rows", "found"] ["box", "rows"] (defScope st_lot_from) := ⟨rfl, rfl, rfl, by decide +kernel, rfl, by decide +kernel, by decide +kernel⟩
theorem sc_Lot_core : FnScope ["self"] ["self"] (defScope st_Lot_core) := ⟨rfl, rfl, rfl, by decide +kernel, rfl, by decide +kernel, by decide +kernel⟩
theorem sc_plain_rows : FnScope ["numbers", "rows", "number"] ["numbers"] (defScope st_plain_rows) := ⟨rfl, rfl, rfl, by decide +kernel, rfl, by decide +kernel, by decide +kernel⟩
theorem sc_still_rows : FnScope ["box", "numbers", "ways", "cell", "ring", "way"] ["box"] (defScope st_still_rows) := ⟨rfl, rfl, rfl, by decide +kernel, rfl, by decide +kernel, by decide +kernel⟩
theorem sc_comb_at : FnScope ["rows", "bit", "found", "row"] ["rows", "bit"] (defScope st_comb_at) := ⟨rfl, rfl, rfl, by decide +kernel, rfl, by decide +kernel, by decide +kernel⟩
theorem sc_against_rows : FnScope ["box", "rows", "firsts", "row", "bits", "cell", "bit"] ["box", "rows"] (defScope st_against_rows) := ⟨rfl, rfl, rfl, by decide +kernel, rfl, by decide +kernel, by decide +kernel⟩
theorem sc_met_rows : FnScope ["box", "rows", "others"] ["box", "rows", "others"] (defScope st_met_rows) := ⟨rfl, rfl, rfl, by decide +kernel, rfl, by decide +kernel, by decide +kernel⟩
theorem sc_Lot_still : FnScope ["self"] ["self"] (defScope st_Lot_still) := ⟨rfl, rfl, rfl, by decide +kernel, rfl, by decide +kernel, by decide +kernel⟩
theorem sc_Lot_against : FnScope ["self"] ["self"] (defScope st_Lot_against) := ⟨rfl, rfl, rfl, by decide +kernel, rfl, by decide +kernel, by decide +kernel⟩
theorem sc_need_like : FnScope ["one", "other"] ["one", "other"] (defScope st_need_like) := ⟨rfl, rfl, rfl, by decide +kernel, rfl, by decide +kernel, by decide +kernel⟩
theorem sc_joined : FnScope ["one", "other"] ["one", "other"] (defScope st_joined) := ⟨rfl, rfl, rfl, by decide +kernel, rfl, by decide +kernel, by decide +kernel⟩
theorem sc_met : FnScope ["one", "other"] ["one", "other"] (defScope st_met) := ⟨rfl, rfl, rfl, by decide +kernel, rfl, by decide +kernel, by decide +kernel⟩
theorem sc_Lot_layers : FnScope ["self", "found"] ["self"] (defScope st_Lot_layers) := ⟨rfl, rfl, rfl, by decide +kernel, rfl, by decide +kernel, by decide +kernel⟩
theorem sc__law_told_lots : FnScope ["bag", "box", "some", "other", "found", "one"] ["bag", "box"] (defScope st__law_told_lots) := ⟨rfl, rfl, rfl, by decide +kernel, rfl, by decide +kernel, by decide +kernel⟩
theorem sc_face_from : FnScope ["box", "number", "wide", "high", "signs", "k", "y"] ["box", "number"] (defScope st_face_from) := ⟨rfl, rfl, rfl, by decide +kernel, rfl, by decide +kernel, by decide +kernel⟩
theorem sc_Lot_rows : FnScope ["self", "row"] ["self"] (defScope st_Lot_rows) := ⟨rfl, rfl, rfl, by decide +kernel, rfl, by decide +kernel, by decide +kernel⟩
theorem sc_Lot_doublings : FnScope ["self"] ["self"] (defScope st_Lot_doublings) := ⟨rfl, rfl, rfl, by decide +kernel, rfl, by decide +kernel, by decide +kernel⟩
theorem sc_Lot_box : FnScope ["self"] ["self"] (defScope st_Lot_box) := ⟨rfl, rfl, rfl, by decide +kernel, rfl, by decide +kernel, by decide +kernel⟩
theorem sc__law_alike_right : FnScope ["lot", "fresh", "layers", "one"] ["lot", "fresh"] (defScope st__law_alike_right) := ⟨rfl, rfl, rfl, by decide +kernel, rfl, by decide +kernel, by decide +kernel⟩
theorem sc_apart_over : FnScope ["rows", "numbers", "found", "number"] ["rows", "numbers"] (defScope st_apart_over) := ⟨rfl, rfl, rfl, by decide +kernel, rfl, by decide +kernel, by decide +kernel⟩
theorem sc_Lot_makers : FnScope ["self", "few", "number"] ["self"] (defScope st_Lot_makers) := ⟨rfl, rfl, rfl, by decide +kernel, rfl, by decide +kernel, by decide +kernel⟩
theorem sc__law_makers_right : FnScope ["lot", "again", "found", "at"] ["lot"] (defScope st__law_makers_right) := ⟨rfl, rfl, rfl, by decide +kernel, rfl, by decide +kernel, by decide +kernel⟩
theorem sc_Lot_member : FnScope ["self", "number", "rest", "found", "row"] ["self", "number"] (defScope st_Lot_member) := ⟨rfl, rfl, rfl, by decide +kernel, rfl, by decide +kernel, by decide +kernel⟩
theorem sc_Lot_has : FnScope ["self", "face"] ["self", "face"] (defScope st_Lot_has) := ⟨rfl, rfl, rfl, by decide +kernel, rfl, by decide +kernel, by decide +kernel⟩
theorem sc_Lot_number_of : FnScope ["self", "face", "cells", "found", "row"] ["self", "face"] (defScope st_Lot_number_of) := ⟨rfl, rfl, rfl, by decide +kernel, rfl, by decide +kernel, by decide +kernel⟩
theorem sc_Lot_comb : FnScope ["self", "face", "rest"] ["self", "face"] (defScope st_Lot_comb) := ⟨rfl, rfl, rfl, by decide +kernel, rfl, by decide +kernel, by decide +kernel⟩
theorem sc__law_odd : FnScope ["comb", "face", "many", "y", "x"] ["comb", "face"] (defScope st__law_odd) := ⟨rfl, rfl, rfl, by decide +kernel, rfl, by decide +kernel, by decide +kernel⟩
theorem sc__law_faces_right : FnScope ["bag", "box", "lot", "fresh", "many", "members", "face", "comb", "k", "one"] ["bag", "box", "lot", "fresh"] (defScope st__law_faces_right) := ⟨rfl, rfl, rfl, by decide +kernel, rfl, by decide +kernel, by decide +kernel⟩
theorem sc_alike : FnScope ["one", "other"] ["one", "other"] (defScope st_alike) := ⟨rfl, rfl, rfl, by decide +kernel, rfl, by decide +kernel, by decide +kernel⟩
theorem sc__law_pairs_right : FnScope ["bag", "box", "lots", "turn", "other", "some", "one", "fresh", "beside"] ["bag", "box", "lots"] (defScope st__law_pairs_right) := ⟨rfl, rfl, rfl, by decide +kernel, rfl, by decide +kernel, by decide +kernel⟩
theorem sc_law : FnScope ["script", "bag", "box", "lots", "lot", "fresh"] ["script"] (defScope st_law) := ⟨rfl, rfl, rfl, by decide +kernel, rfl, by decide +kernel, by decide +kernel⟩
/-! ### 2. the constants -/
def k_FLAT : D := .str "."
def k_MOST_FACES : D := .int 60
def k_MOST_SIDE : D := .int 6
def k_QUARTERS : D := .int 4
def l_TURNINGS : List Str := ["r0", "r1", "r2", "r3", "m0", "m1", "m2", "m3"]
def k_TURNINGS : D := .tup (l_TURNINGS.map .str)
def k_UP : D := .str "o"
/-! ### 3. the mirrors -/
def s__law_bag : MS := (sRet (eOwn (fLst (aCons (eC (.int 0)) (aCons (eC (.int 1234567891)) (aCons (eC (.int 0)) (aCons (eFrz (fComp (iAny (eSl (eVar 0) oNone (oSome (eC (.int 63))))) (tgN 1) tYesM (e1 gAbs (eVar 1)) [1])) aNil)))))))
def f__law_bag : MF := mfn 2 1 s__law_bag
def s__law_take : MS := (sSeq (sIf (tOf (eBin gEq (eIx (eVar 0) (eC (.int 0))) (eC (.int 0)))) (sSeq (sAsg (tgN 4) (eC (.int 0))) (sSeq (sIf (tOf (eBin gLt (eIx (eVar 0) (eC (.int 2))) (e1 gLen (eIx (eVar 0) (eC (.int 3)))))) (sAsg (tgN 4) (eIx (eIx (eVar 0) (eC (.int 3))) (eIx (eVar 0) (eC (.int 2))))) sNil) (sSeq (sAugL (eVar 0) (eC (.int 2)) (eC (.int 1))) (sSeq (sIf (tOf (eBin gGe (eVar 4) (eC (.int 1000000000000000000)))) (sSubL (eVar 0) (eC (.int 0)) (eVar 4)) sNil) (sSubL (eVar 0) (eC (.int 1)) (eBin gMod (eBin gAdd (eBin gAdd (eBin gMul (eIx (eVar 0) (eC (.int 1))) (eC (.int 48271))) (eBin gMod (eVar 4) (eC (.int 2147483647)))) (eBin gMul (eC (.int 7919)) (eIx (eVar 0) (eC (.int 2))))) (eC (.int 2147483647)))))))) sNil) (sSeq (sIf (tOf (eBin gGt (eIx (eVar 0) (eC (.int 0))) (eC (.int 0)))) (sSeq (sAsg (tgN 5) (eBin gMod (eIx (eVar 0) (eC (.int 0))) (eVar 1))) (sSeq (sSubL (eVar 0) (eC (.int 0)) (eBin gDiv (eIx (eVar 0) (eC (.int 0))) (eVar 1))) (sRet (eVar 5)))) sNil) (sSeq (sAsg (tgN 2) (eBin gMod (eBin gMul (eBin gAdd (eIx (eVar 0) (eC (.int 1))) (eC (.int 1))) (eC (.int 39373))) (eC (.int 1000000007)))) (sSeq (sAsg (tgN 3) (eBin gMod (eBin gMul (eBin gMod (eBin gMul (eVar 2) (eVar 2)) (eC (.int 998244353))) (eC (.int 30011))) (eC (.int 998244353)))) (sSeq (sIf (tOf (eBin gGt (eVar 1) (eC (.int 1000000)))) (sRet (eBin gMod (eBin gAdd (eBin gMul (eVar 3) (eC (.int 1000000007))) (eVar 2)) (eVar 1))) sNil) (sRet (eBin gMod (eBin gDiv (eVar 3) (eC (.int 7))) (eVar 1))))))))
def f__law_take : MF := mfn 6 2 s__law_take
def s__law_box : MS := (sSeq (sAsg (tgN 2) (eBin gAdd (eC (.int 1)) (eCall f__law_take (aCons (eVar 0) (aCons (eVar 1) aNil))))) (sRet (eTup (aCons (eVar 2) (aCons (eIx (eFrz (fLst (aCons (eVar 2) (aCons (eVar 2) (aCons (eBin gAdd (eC (.int 1)) (eCall f__law_take (aCons (eVar 0) (aCons (eVar 1) aNil)))) aNil))))) (eCall f__law_take (aCons (eVar 0) (aCons (eC (.int 3)) aNil)))) aNil)))))
def f__law_box : MF := mfn 3 2 s__law_box
def s__law_face : MS := (sSeq (sAsg (tgN 2) (eIx (eFrz (fLst (aCons (eC (.int 9)) (aCons (eC (.int 5)) (aCons (eC (.int 3)) (aCons (eC (.int 2)) (aCons (eC (.int 2)) (aCons (eC (.int 1)) aNil)))))))) (eCall f__law_take (aCons (eVar 0) (aCons (eC (.int 6)) aNil))))) (sSeq (sAsg (tgN 3) (eFrz (fComp (iRng1M (eIx (eVar 1) (eC (.int 1)))) (tgN 5) tYesM (eJoin (eC (.str "")) (eFrz (fComp (iRng1M (eIx (eVar 1) (eC (.int 0)))) (tgN 6) tYesM (eIx (eC (.str ".o")) (e1 gInt (eBin gEq (eCall f__law_take (aCons (eVar 0) (aCons (eVar 2) aNil))) (eC (.int 0))))) [6]))) [5]))) (sSeq (sAsg (tgN 4) (eTup (aCons (eCall f__law_take (aCons (eVar 0) (aCons (eIx (eVar 1) (eC (.int 0))) aNil))) (aCons (eCall f__law_take (aCons (eVar 0) (aCons (eIx (eVar 1) (eC (.int 1))) aNil))) aNil)))) (sSeq (sIf (tOf (eBin gEq (eVar 2) (eC (.int 9)))) (sAsg (tgN 3) (eFrz (fComp (iRng1M (eIx (eVar 1) (eC (.int 1)))) (tgN 5) tYesM (eJoin (eC (.str "")) (eFrz (fComp (iRng1M (eIx (eVar 1) (eC (.int 0)))) (tgN 6) tYesM (eIx (eC (.str ".o")) (e1 gInt (eBin gEq (eTup (aCons (eVar 6) (aCons (eVar 5) aNil))) (eVar 4)))) [6]))) [5]))) sNil) (sSeq (sIf (tAndM (tOf (eBin gEq (eVar 2) (eC (.int 5)))) (tOf (eBin gEq (eIx (eVar 4) (eC (.int 0))) (eC (.int 0))))) (sAsg (tgN 3) (eBin gMul (eFrz (fLst (aCons (eBin gMul (eC (.str ".")) (eIx (eVar 1) (eC (.int 0)))) aNil))) (eIx (eVar 1) (eC (.int 1))))) sNil) (sRet (e1 gTuple (eVar 3))))))))
def f__law_face : MF := mfn 7 2 s__law_face
def s__law_turnings : MS := (sSeq (sIf (tOf (eBin gEq (eIx (eVar 0) (eC (.int 0))) (eIx (eVar 0) (eC (.int 1))))) (sRet (eFrz (fLst (aCons (eC (.str "m0")) (aCons (eC (.str "m1")) (aCons (eC (.str "m2")) (aCons (eC (.str "m3")) (aCons (eC (.str "r0")) (aCons (eC (.str "r1")) (aCons (eC (.str "r2")) (aCons (eC (.str "r3")) aNil))))))))))) sNil) (sRet (eFrz (fLst (aCons (eC (.str "m0")) (aCons (eC (.str "m2")) (aCons (eC (.str "r0")) (aCons (eC (.str "r2")) aNil))))))))
def f__law_turnings : MF := mfn 1 1 s__law_turnings
def s__law_spun : MS := (sSeq (sAsg (tgN 2) (eOwn (fLst aNil))) (sSeq (sFor (iRng1M (e1 gLen (eVar 0))) (tgN 3) (sExpr (eMut gExtend (eVar 2) (aCons (eFrz (fComp (iRng1M (e1 gLen (eIx (eVar 0) (eVar 3)))) (tgN 7) (tOf (eBin gEq (eIx (eIx (eVar 0) (eVar 3)) (eVar 7)) (eC (.str "o")))) (eTup (aCons (eVar 7) (aCons (eVar 3) aNil))) [7])) aNil)))) (sFrz 2 (sSeq (sAsg (tgT (tgCons (tgN 4) (tgCons (tgN 5) tgNil))) (eTup (aCons (e1 gLen (eIx (eVar 0) (eC (.int 0)))) (aCons (e1 gLen (eVar 0)) aNil)))) (sSeq (sIf (tOf (eBin gEq (eIx (eVar 1) (eC (.int 0))) (eC (.str "m")))) (sAsg (tgN 2) (eFrz (fComp (iAny (eVar 2)) (tgT (tgCons (tgN 7) (tgCons (tgN 3) tgNil))) tYesM (eTup (aCons (eBin gSub (eBin gSub (eVar 4) (eC (.int 1))) (eVar 7)) (aCons (eVar 3) aNil))) [7, 3]))) sNil) (sSeq (sFor (iRng1M (eSIndex (eC (.str "0123")) (eIx (eVar 1) (eC (.int 1))))) (tgN 6) (sSeq (sAsg (tgN 2) (eFrz (fComp (iAny (eVar 2)) (tgT (tgCons (tgN 7) (tgCons (tgN 3) tgNil))) tYesM (eTup (aCons (eBin gSub (eBin gSub (eVar 5) (eC (.int 1))) (eVar 3)) (aCons (eVar 7) aNil))) [7, 3]))) (sAsg (tgT (tgCons (tgN 4) (tgCons (tgN 5) tgNil))) (eTup (aCons (eVar 5) (aCons (eVar 4) aNil)))))) (sRet (e1 gTuple (eFrz (fComp (iRng1M (eVar 5)) (tgN 3) tYesM (eJoin (eC (.str "")) (eFrz (fComp (iRng1M (eVar 4)) (tgN 7) tYesM (eIx (eC (.str ".o")) (e1 gInt (eBin gIn (eTup (aCons (eVar 7) (aCons (eVar 3) aNil))) (eVar 2)))) [7]))) [3]))))))))))
def f__law_spun : MF := mfn 8 2 s__law_spun
def s__law_images : MS := (sRet (eFrz (fComp (iAny (eCall f__law_turnings (aCons (eTup (aCons (e1 gLen (eIx (eVar 0) (eC (.int 0)))) (aCons (e1 gLen (eVar 0)) aNil))) aNil))) (tgN 1) tYesM (eCall f__law_spun (aCons (eVar 0) (aCons (eVar 1) aNil))) [1])))
def f__law_images : MF := mfn 2 1 s__law_images
def s__law_over : MS := (sSeq (sAsg (tgN 2) (eOwn (fLst aNil))) (sSeq (sFor (iRng1M (e1 gLen (eVar 0))) (tgN 3) (sExpr (eMut gAppend (eVar 2) (aCons (eJoin (eC (.str "")) (eFrz (fComp (iRng1M (e1 gLen (eIx (eVar 0) (eVar 3)))) (tgN 4) tYesM (eIx (eC (.str ".o")) (e1 gInt (eBin gNe (eIx (eIx (eVar 0) (eVar 3)) (eVar 4)) (eIx (eIx (eVar 1) (eVar 3)) (eVar 4))))) [4]))) aNil)))) (sRet (e1 gTuple (eVar 2)))))
def f__law_over : MF := mfn 5 2 s__law_over
def s__law_whole : MS := (sSeq (sAsg (tgN 1) (eOwn (fLst aNil))) (sSeq (sFor (iRng1M (e1 gLen (eIx (eVar 0) (eC (.int 0))))) (tgN 2) (sExpr (eMut gAppend (eVar 1) (aCons (eJoin (eC (.str "")) (eFrz (fComp (iRng1M (e1 gLen (eIx (eIx (eVar 0) (eC (.int 0))) (eVar 2)))) (tgN 3) tYesM (eIx (eC (.str ".o")) (e1 gInt (eBin gIn (eC (.str "o")) (eFrz (fComp (iAny (eVar 0)) (tgN 4) tYesM (eIx (eIx (eVar 4) (eVar 2)) (eVar 3)) [4]))))) [3]))) aNil)))) (sRet (e1 gTuple (eVar 1)))))
def f__law_whole : MF := mfn 5 1 s__law_whole
def s__law_seeds : MS := (sSeq (sAsg (tgN 3) (eOwn (fLst aNil))) (sSeq (sFor (iRng1M (eCall f__law_take (aCons (eVar 0) (aCons (eBin gAdd (eVar 2) (eC (.int 1))) aNil)))) (tgN 4) (sSeq (sAsg (tgN 5) (eCall f__law_take (aCons (eVar 0) (aCons (eC (.int 7)) aNil)))) (sSeq (sAsg (tgN 6) (eCall f__law_face (aCons (eVar 0) (aCons (eVar 1) aNil)))) (sSeq (sAsg (tgN 7) (eCall f__law_images (aCons (eVar 6) aNil))) (sSeq (sIf (tOf (eBin gEq (eVar 5) (eC (.int 0)))) (sAsg (tgN 6) (eCall f__law_over (aCons (eVar 6) (aCons (eVar 6) aNil)))) (sIf (tOf (eBin gEq (eVar 5) (eC (.int 1)))) (sAsg (tgN 6) (eCall f__law_over (aCons (eVar 6) (aCons (eIx (eVar 7) (eCall f__law_take (aCons (eVar 0) (aCons (e1 gLen (eVar 7)) aNil)))) aNil)))) (sIf (tOf (eBin gEq (eVar 5) (eC (.int 2)))) (sAsg (tgN 6) (eCall f__law_whole (aCons (eVar 7) aNil))) (sIf (tAndM (tOf (eBin gEq (eVar 5) (eC (.int 3)))) (tOf (eBin gNe (eVar 3) (eFrz (fLst aNil))))) (sAsg (tgN 6) (eIx (eCall f__law_images (aCons (eIx (eVar 3) (eNeg (eC (.int 1)))) aNil)) (eCall f__law_take (aCons (eVar 0) (aCons (e1 gLen (eVar 7)) aNil))))) sNil)))) (sExpr (eMut gAppend (eVar 3) (aCons (eVar 6) aNil)))))))) (sRet (eFreeze (eVar 3)))))
def f__law_seeds : MF := mfn 8 3 s__law_seeds
def s_is_whole : MS := (sRet (eAnd (eIsB "int" (eVar 0)) (eNot (eIsB "bool" (eVar 0)))))
def f_is_whole : MF := mfn 1 1 s_is_whole
def s_is_side : MS := (sRet (eAnd (eCall f_is_whole (aCons (eVar 0) aNil)) (eChain gLe gLe (eC (.int 1)) (eVar 0) (eC k_MOST_SIDE))))
def f_is_side : MF := mfn 1 1 s_is_side
def s_is_box : MS := (sRet (eAnd (eIsB "tuple" (eVar 0)) (eAnd (eBin gEq (e1 gLen (eVar 0)) (eC (.int 2))) (eAnd (eCall f_is_side (aCons (eIx (eVar 0) (eC (.int 0))) aNil)) (eCall f_is_side (aCons (eIx (eVar 0) (eC (.int 1))) aNil))))))
def f_is_box : MF := mfn 1 1 s_is_box
def s_is_face_row : MS := (sSeq (sIf (tOrM (tNotM (tOf (eIsB "str" (eVar 0)))) (tNotM (tOf (eChain gLe gLe (eC (.int 1)) (e1 gLen (eVar 0)) (eC k_MOST_SIDE))))) (sRet (eC (.bl false))) sNil) (sRet (e1 gAll (eFrz (fComp (iAny (eVar 0)) (tgN 1) tYesM (eOr (eBin gEq (eVar 1) (eC k_UP)) (eBin gEq (eVar 1) (eC k_FLAT))) [1])))))
def f_is_face_row : MF := mfn 2 1 s_is_face_row
def s_is_face : MS := (sSeq (sIf (tOrM (tNotM (tOf (eIsB "tuple" (eVar 0)))) (tNotM (tOf (eChain gLe gLe (eC (.int 1)) (e1 gLen (eVar 0)) (eC k_MOST_SIDE))))) (sRet (eC (.bl false))) sNil) (sRet (eAnd (e1 gAll (eFrz (fComp (iAny (eVar 0)) (tgN 1) tYesM (eCall f_is_face_row (aCons (eVar 1) aNil)) [1]))) (e1 gAll (eFrz (fComp (iAny (eVar 0)) (tgN 1) tYesM (eBin gEq (e1 gLen (eVar 1)) (e1 gLen (eIx (eVar 0) (eC (.int 0))))) [1]))))))
def f_is_face : MF := mfn 2 1 s_is_face
def s_is_face_of : MS := (sRet (eAnd (eCall f_is_face (aCons (eVar 1) aNil)) (eBin gEq (eTup (aCons (e1 gLen (eIx (eVar 1) (eC (.int 0)))) (aCons (e1 gLen (eVar 1)) aNil))) (eVar 0))))
def f_is_face_of : MF := mfn 2 2 s_is_face_of
def s_are_box_faces : MS := (sSeq (sIf (tOrM (tNotM (tOf (eIsB "list" (eVar 1)))) (tOf (eBin gGt (e1 gLen (eVar 1)) (eC k_MOST_FACES)))) (sRet (eC (.bl false))) sNil) (sRet (e1 gAll (eFrz (orA (fComp (iAny (eVar 1)) (tgN 2) tYesM (eCall f_is_face_of (aCons (eVar 0) (aCons (eVar 2) aNil))) [2]) (fCompC (iPtr (eVar 1)) (tgN 2) tYesM (eCall f_is_face_of (aCons (eVar 0) (aCons (eVar 2) aNil))) [2]))))))
def f_are_box_faces : MF := mfn 3 2 s_are_box_faces
def s_bits_of : MS := (sSeq (sAsg (tgN 1) (eC (.int 0))) (sSeq (sFor (iAny (eVar 0)) (tgN 2) (sFor (iAny (eVar 2)) (tgN 3) (sAsg (tgN 1) (eBin gAdd (eBin gMul (eC (.int 2)) (eVar 1)) (e1 gInt (eBin gEq (eVar 3) (eC k_UP))))))) (sRet (eVar 1))))
def f_bits_of : MF := mfn 4 1 s_bits_of
def s_quarters : MS := (sRet (eBin gMod (eTIndex l_TURNINGS (eVar 0)) (eC k_QUARTERS)))
def f_quarters : MF := mfn 1 1 s_quarters
def s_turnings_of : MS := (sSeq (sAsg (tgT (tgCons (tgN 1) (tgCons (tgN 2) tgNil))) (eVar 0)) (sSeq (sIf (tOf (eBin gEq (eVar 1) (eVar 2))) (sRet (eFrz (f1 gSortedT (eC k_TURNINGS)))) sNil) (sRet (eFrz (f1 gSorted (eFrz (fComp (iAny (eC k_TURNINGS)) (tgN 3) (tOf (eBin gEq (eBin gMod (eCall f_quarters (aCons (eVar 3) aNil)) (eC (.int 2))) (eC (.int 0)))) (eVar 3) [3])))))))
def f_turnings_of : MF := mfn 4 1 s_turnings_of
def s_bit_cells : MS := (sSeq (sAsg (tgT (tgCons (tgN 1) (tgCons (tgN 2) tgNil))) (eVar 0)) (sRet (eFrz (fComp2 (iRng1M (eVar 2)) (tgN 3) tYesM (iRng1M (eVar 1)) (tgN 4) tYesM (eTup (aCons (eVar 4) (aCons (eVar 3) aNil))) [3, 4] [4]))))
def f_bit_cells : MF := mfn 5 1 s_bit_cells
def s_cell_bit : MS := (sSeq (sAsg (tgT (tgCons (tgN 2) (tgCons (tgN 3) tgNil))) (eVar 0)) (sSeq (sAsg (tgT (tgCons (tgN 4) (tgCons (tgN 5) tgNil))) (eVar 1)) (sRet (eBin gShl (eC (.int 1)) (eBin gSub (eBin gSub (eBin gSub (eBin gMul (eVar 2) (eVar 3)) (eC (.int 1))) (eBin gMul (eVar 2) (eVar 5))) (eVar 4))))))
def f_cell_bit : MF := mfn 6 2 s_cell_bit
def s_exchanges : MS := (sRet (eBin gEq (eIx (eVar 0) (eC (.int 0))) (eC (.str "m"))))
def f_exchanges : MF := mfn 1 1 s_exchanges
def s_turned_cell : MS := (sSeq (sAsg (tgT (tgCons (tgN 3) (tgCons (tgN 4) tgNil))) (eVar 0)) (sSeq (sAsg (tgT (tgCons (tgN 5) (tgCons (tgN 6) tgNil))) (eVar 1)) (sSeq (sIf (tOf (eCall f_exchanges (aCons (eVar 2) aNil))) (sAsg (tgN 5) (eBin gSub (eBin gSub (eVar 3) (eC (.int 1))) (eVar 5))) sNil) (sSeq (sFor (iRng1M (eCall f_quarters (aCons (eVar 2) aNil))) (tgN 7) (sSeq (sPar 5 6 (eBin gSub (eBin gSub (eVar 4) (eC (.int 1))) (eVar 6)) (eVar 5)) (sPar 3 4 (eVar 4) (eVar 3)))) (sRet (eTup (aCons (eVar 5) (aCons (eVar 6) aNil))))))))
def f_turned_cell : MF := mfn 8 3 s_turned_cell
def s_moves_of : MS := (sRet (eFrz (fComp (iAny (eCall f_bit_cells (aCons (eVar 0) aNil))) (tgN 2) tYesM (eTup (aCons (eCall f_cell_bit (aCons (eVar 0) (aCons (eVar 2) aNil))) (aCons (eCall f_cell_bit (aCons (eVar 0) (aCons (eCall f_turned_cell (aCons (eVar 0) (aCons (eVar 2) (aCons (eVar 1) aNil)))) aNil))) aNil))) [2])))
def f_moves_of : MF := mfn 3 2 s_moves_of
def s_all_moves : MS := (sRet (eFrz (fComp (iAny (eCall f_turnings_of (aCons (eVar 0) aNil))) (tgN 1) tYesM (eCall f_moves_of (aCons (eVar 0) (aCons (eVar 1) aNil))) [1])))
def f_all_moves : MF := mfn 2 1 s_all_moves
def s_moved_bits : MS := (sSeq (sAsg (tgN 2) (eC (.int 0))) (sSeq (sFor (iAny (eVar 1)) (tgT (tgCons (tgN 3) (tgCons (tgN 4) tgNil))) (sIf (tOf (eBin gNe (eBin gAnd (eVar 0) (eVar 3)) (eC (.int 0)))) (sAsg (tgN 2) (eBin gOr (eVar 2) (eVar 4))) sNil)) (sRet (eVar 2))))
def f_moved_bits : MF := mfn 5 2 s_moved_bits
def s_top_bit : MS := (sRet (eBin gShl (eC (.int 1)) (eBin gSub (e1 gBits (eVar 0)) (eC (.int 1)))))
def f_top_bit : MF := mfn 1 1 s_top_bit
def s_sifted : MS := (sSeq (sFor (iAny (eVar 0)) (tgN 2) (sIf (tOf (eBin gNe (eBin gAnd (eVar 1) (eCall f_top_bit (aCons (eVar 2) aNil))) (eC (.int 0)))) (sAsg (tgN 1) (eBin gXor (eVar 1) (eVar 2))) sNil)) (sRet (eVar 1)))
def f_sifted : MF := mfn 3 2 s_sifted
def s_joined_rows : MS := (sSeq (sAsg (tgN 2) (eCall f_sifted (aCons (eVar 0) (aCons (eVar 1) aNil)))) (sSeq (sIf (tOf (eBin gEq (eVar 2) (eC (.int 0)))) (sRet (eVar 0)) sNil) (sSeq (sAsg (tgN 3) (eCall f_top_bit (aCons (eVar 2) aNil))) (sSeq (sAsg (tgN 4) (eFrz (fComp (iAny (eVar 0)) (tgN 5) tYesM (eIf (tOf (eBin gNe (eBin gAnd (eVar 5) (eVar 3)) (eC (.int 0)))) (eBin gXor (eVar 5) (eVar 2)) (eVar 5)) [5]))) (sRet (eFrz (fSortedR (eBin gAdd (eVar 4) (eFrz (fLst (aCons (eVar 2) aNil)))))))))))
def f_joined_rows : MF := mfn 6 2 s_joined_rows
def s_lot_rows : MS := (sSeq (sAsg (tgN 2) (eFrz (fLst aNil))) (sSeq (sAsg (tgN 3) (eCall f_all_moves (aCons (eVar 0) aNil))) (sSeq (sFor (iAny (eVar 1)) (tgN 4) (sFor (iAny (eVar 3)) (tgN 5) (sAsg (tgN 2) (eCall f_joined_rows (aCons (eVar 2) (aCons (eCall f_moved_bits (aCons (eVar 4) (aCons (eVar 5) aNil))) aNil)))))) (sRet (eVar 2)))))
def f_lot_rows : MF := mfn 6 2 s_lot_rows
def s_Lot___init__ : MS := (sSeq (sIf (tNotM (tOf (eCall f_is_box (aCons (eVar 1) aNil)))) sNever sNil) (sSeq (sIf (tNotM (tOf (eCall f_are_box_faces (aCons (eVar 1) (aCons (eVar 2) aNil))))) sNever sNil) (sSeq (sFldM ["Lot"] "frame" (eVar 0) (eVar 1)) (sFldM ["Lot"] "plain" (eVar 0) (eCall f_lot_rows (aCons (eVar 1) (aCons (eFrz (orA (fComp (iAny (eVar 2)) (tgN 3) tYesM (eCall f_bits_of (aCons (eVar 3) aNil)) [3]) (fCompC (iPtr (eVar 2)) (tgN 3) tYesM (eCall f_bits_of (aCons (eVar 3) aNil)) [3]))) aNil)))))))
def f_Lot___init__ : MF := mfn 4 3 s_Lot___init__
def s_core_rows : MS := (sSeq (sAsg (tgN 2) (eFrz (fLst aNil))) (sSeq (sAsg (tgN 3) (eCall f_all_moves (aCons (eVar 0) aNil))) (sSeq (sFor (iAny (eVar 1)) (tgN 4) (sFor (iAny (eVar 3)) (tgN 5) (sAsg (tgN 2) (eCall f_joined_rows (aCons (eVar 2) (aCons (eBin gXor (eVar 4) (eCall f_moved_bits (aCons (eVar 4) (aCons (eVar 5) aNil)))) aNil)))))) (sRet (eVar 2)))))
def f_core_rows : MF := mfn 6 2 s_core_rows
def s_lot_from : MS := (sSeq (sAsg (tgN 2) (eMake "Lot" f_Lot___init__ (aCons (eVar 0) (aCons (eFrz (fLst aNil)) aNil)))) (sSeq (sFldM ["Lot"] "plain" (eVar 2) (eVar 1)) (sRet (eFreeze (eVar 2)))))
def f_lot_from : MF := mfn 3 2 s_lot_from
def s_Lot_core : MS := (sRet (eCall f_lot_from (aCons (eFld ["Lot"] "frame" (eVar 0)) (aCons (eCall f_core_rows (aCons (eFld ["Lot"] "frame" (eVar 0)) (aCons (eFld ["Lot"] "plain" (eVar 0)) aNil))) aNil))))
def f_Lot_core : MF := mfn 1 1 s_Lot_core
def s_plain_rows : MS := (sSeq (sAsg (tgN 1) (eFrz (fLst aNil))) (sSeq (sFor (iAny (eVar 0)) (tgN 2) (sAsg (tgN 1) (eCall f_joined_rows (aCons (eVar 1) (aCons (eVar 2) aNil))))) (sRet (eVar 1))))
def f_plain_rows : MF := mfn 3 1 s_plain_rows
def s_still_rows : MS := (sSeq (sAsg (tgN 1) (eOwn (fLst aNil))) (sSeq (sAsg (tgN 2) (eCall f_all_moves (aCons (eVar 0) aNil))) (sSeq (sFor (iAny (eCall f_bit_cells (aCons (eVar 0) aNil))) (tgN 3) (sSeq (sAsg (tgN 4) (eC (.int 0))) (sSeq (sFor (iAny (eVar 2)) (tgN 5) (sAsg (tgN 4) (eBin gOr (eVar 4) (eCall f_moved_bits (aCons (eCall f_cell_bit (aCons (eVar 0) (aCons (eVar 3) aNil))) (aCons (eVar 5) aNil)))))) (sExpr (eMut gAppend (eVar 1) (aCons (eVar 4) aNil)))))) (sFrz 1 (sRet (eCall f_plain_rows (aCons (eVar 1) aNil)))))))
def f_still_rows : MF := mfn 6 1 s_still_rows
def s_comb_at : MS := (sSeq (sAsg (tgN 2) (eVar 1)) (sSeq (sFor (iAny (eVar 0)) (tgN 3) (sIf (tOf (eBin gNe (eBin gAnd (eVar 3) (eVar 1)) (eC (.int 0)))) (sAsg (tgN 2) (eBin gOr (eVar 2) (eCall f_top_bit (aCons (eVar 3) aNil)))) sNil)) (sRet (eVar 2))))
def f_comb_at : MF := mfn 4 2 s_comb_at
def s_against_rows : MS := (sSeq (sAsg (tgN 2) (eC (.int 0))) (sSeq (sFor (iAny (eVar 1)) (tgN 3) (sAsg (tgN 2) (eBin gOr (eVar 2) (eCall f_top_bit (aCons (eVar 3) aNil))))) (sSeq (sAsg (tgN 4) (eFrz (fComp (iAny (eCall f_bit_cells (aCons (eVar 0) aNil))) (tgN 5) tYesM (eCall f_cell_bit (aCons (eVar 0) (aCons (eVar 5) aNil))) [5]))) (sRet (eCall f_plain_rows (aCons (eFrz (fComp (iAny (eVar 4)) (tgN 6) (tOf (eBin gEq (eBin gAnd (eVar 2) (eVar 6)) (eC (.int 0)))) (eCall f_comb_at (aCons (eVar 1) (aCons (eVar 6) aNil))) [6])) aNil))))))
def f_against_rows : MF := mfn 7 2 s_against_rows
def s_met_rows : MS := (sRet (eCall f_against_rows (aCons (eVar 0) (aCons (eCall f_plain_rows (aCons (eBin gAdd (eCall f_against_rows (aCons (eVar 0) (aCons (eVar 1) aNil))) (eCall f_against_rows (aCons (eVar 0) (aCons (eVar 2) aNil)))) aNil)) aNil))))
def f_met_rows : MF := mfn 3 3 s_met_rows
def s_Lot_still : MS := (sRet (eCall f_lot_from (aCons (eFld ["Lot"] "frame" (eVar 0)) (aCons (eCall f_met_rows (aCons (eFld ["Lot"] "frame" (eVar 0)) (aCons (eFld ["Lot"] "plain" (eVar 0)) (aCons (eCall f_still_rows (aCons (eFld ["Lot"] "frame" (eVar 0)) aNil)) aNil)))) aNil))))
def f_Lot_still : MF := mfn 1 1 s_Lot_still
def s_Lot_against : MS := (sRet (eCall f_lot_from (aCons (eFld ["Lot"] "frame" (eVar 0)) (aCons (eCall f_against_rows (aCons (eFld ["Lot"] "frame" (eVar 0)) (aCons (eFld ["Lot"] "plain" (eVar 0)) aNil))) aNil))))
def f_Lot_against : MF := mfn 1 1 s_Lot_against
def s_need_like : MS := (sIf (tOf (eBin gNe (eFld ["Lot"] "frame" (eVar 0)) (eFld ["Lot"] "frame" (eVar 1)))) sNever sNil)
def f_need_like : MF := mfn 2 2 s_need_like
def s_joined : MS := (sSeq (sExpr (eCall f_need_like (aCons (eVar 0) (aCons (eVar 1) aNil)))) (sRet (eCall f_lot_from (aCons (eFld ["Lot"] "frame" (eVar 0)) (aCons (eCall f_plain_rows (aCons (eBin gAdd (eFld ["Lot"] "plain" (eVar 0)) (eFld ["Lot"] "plain" (eVar 1))) aNil)) aNil)))))
def f_joined : MF := mfn 2 2 s_joined
def s_met : MS := (sSeq (sExpr (eCall f_need_like (aCons (eVar 0) (aCons (eVar 1) aNil)))) (sRet (eCall f_lot_from (aCons (eFld ["Lot"] "frame" (eVar 0)) (aCons (eCall f_met_rows (aCons (eFld ["Lot"] "frame" (eVar 0)) (aCons (eFld ["Lot"] "plain" (eVar 0)) (aCons (eFld ["Lot"] "plain" (eVar 1)) aNil)))) aNil)))))
def f_met : MF := mfn 2 2 s_met
def s_Lot_layers : MS := (sSeq (sAsg (tgN 1) (eOwn (fLst (aCons (eCall f_lot_from (aCons (eFld ["Lot"] "frame" (eVar 0)) (aCons (eFrz (f1 gList (eFld ["Lot"] "plain" (eVar 0)))) aNil))) aNil)))) (sSeq (whGo (tOf (eBin gNe (eFld ["Lot"] "plain" (eIx (eVar 1) (eNeg (eC (.int 1))))) (eFrz (fLst aNil)))) (sExpr (eMut gAppend (eVar 1) (aCons (eMeth [("Lot", f_Lot_core)] "core" (eIx (eVar 1) (eNeg (eC (.int 1)))) aNil) aNil))) 100000) (sRet (eFreeze (eVar 1)))))
def f_Lot_layers : MF := mfn 2 1 s_Lot_layers
def s__law_told_lots : MS := (sSeq (sPar 2 3 (eMkF "Lot" f_Lot___init__ (aCons (eVar 1) (aCons (eCall f__law_seeds (aCons (eVar 0) (aCons (eVar 1) (aCons (eC (.int 4)) aNil)))) aNil))) (eMkF "Lot" f_Lot___init__ (aCons (eVar 1) (aCons (eCall f__law_seeds (aCons (eVar 0) (aCons (eVar 1) (aCons (eC (.int 2)) aNil)))) aNil)))) (sSeq (sAsg (tgN 4) (eFrz (fLst (aCons (eVar 2) (aCons (eMeth [("Lot", f_Lot_core)] "core" (eVar 2) aNil) (aCons (eMeth [("Lot", f_Lot_still)] "still" (eVar 2) aNil) (aCons (eMeth [("Lot", f_Lot_against)] "against" (eVar 2) aNil) (aCons (eCall f_joined (aCons (eVar 2) (aCons (eMeth [("Lot", f_Lot_against)] "against" (eVar 2) aNil) aNil))) (aCons (eCall f_met (aCons (eVar 2) (aCons (eMeth [("Lot", f_Lot_core)] "core" (eVar 2) aNil) aNil))) aNil))))))))) (sSeq (sAsg (tgN 4) (eBin gAdd (eBin gAdd (eVar 4) (eFrz (fLst (aCons (eCall f_joined (aCons (eVar 2) (aCons (eVar 3) aNil))) (aCons (eCall f_met (aCons (eVar 2) (aCons (eVar 3) aNil))) (aCons (eCall f_joined (aCons (eMkF "Lot" f_Lot___init__ (aCons (eVar 1) (aCons (eFrz (fLst aNil)) aNil))) (aCons (eVar 2) aNil))) aNil)))))) (eMeth [("Lot", f_Lot_layers)] "layers" (eVar 2) aNil))) (sSeq (sAsg (tgN 5) (eIx (eVar 4) (eCall f__law_take (aCons (eVar 0) (aCons (e1 gLen (eVar 4)) aNil))))) (sRet (eBin gAdd (eBin gAdd (eVar 4) (eFrz (fLst (aCons (eMeth [("Lot", f_Lot_core)] "core" (eVar 5) aNil) (aCons (eMeth [("Lot", f_Lot_against)] "against" (eVar 5) aNil) (aCons (eMeth [("Lot", f_Lot_still)] "still" (eVar 5) aNil) (aCons (eCall f_joined (aCons (eVar 5) (aCons (eMeth [("Lot", f_Lot_core)] "core" (eVar 3) aNil) aNil))) aNil))))))) (eSl (eMeth [("Lot", f_Lot_layers)] "layers" (eVar 5) aNil) oNone (oSome (eC (.int 2))))))))))
def f__law_told_lots : MF := mfn 6 2 s__law_told_lots
def s_face_from : MS := (sSeq (sAsg (tgT (tgCons (tgN 2) (tgCons (tgN 3) tgNil))) (eVar 0)) (sSeq (sAsg (tgN 4) (eC (.str ""))) (sSeq (sFor (iRng1M (eBin gMul (eVar 2) (eVar 3))) (tgN 5) (sSeq (sAsg (tgN 4) (eBin gAdd (eIf (tOf (eBin gEq (eBin gAnd (eVar 1) (eC (.int 1))) (eC (.int 1)))) (eC k_UP) (eC k_FLAT)) (eVar 4))) (sAsg (tgN 1) (eBin gShr (eVar 1) (eC (.int 1)))))) (sRet (e1 gTuple (eFrz (fComp (iRng1M (eVar 3)) (tgN 6) tYesM (eSl (eVar 4) (oSome (eBin gMul (eVar 2) (eVar 6))) (oSome (eBin gAdd (eBin gMul (eVar 2) (eVar 6)) (eVar 2)))) [6])))))))
def f_face_from : MF := mfn 7 2 s_face_from
def s_Lot_rows : MS := (sRet (eFrz (fComp (iAny (eFld ["Lot"] "plain" (eVar 0))) (tgN 1) tYesM (eCall f_face_from (aCons (eFld ["Lot"] "frame" (eVar 0)) (aCons (eVar 1) aNil))) [1])))
def f_Lot_rows : MF := mfn 2 1 s_Lot_rows
def s_Lot_doublings : MS := (sRet (e1 gLen (eFld ["Lot"] "plain" (eVar 0))))
def f_Lot_doublings : MF := mfn 1 1 s_Lot_doublings
def s_Lot_box : MS := (sRet (eFld ["Lot"] "frame" (eVar 0)))
def f_Lot_box : MF := mfn 1 1 s_Lot_box
def s__law_alike_right : MS := (sSeq (sIf (tOrM (tOf (eBin gNe (eMeth [("Lot", f_Lot_rows)] "rows" (eVar 0) aNil) (eMeth [("Lot", f_Lot_rows)] "rows" (eVar 1) aNil))) (tOrM (tOf (eBin gNe (eMeth [("Lot", f_Lot_doublings)] "doublings" (eVar 0) aNil) (eMeth [("Lot", f_Lot_doublings)] "doublings" (eVar 1) aNil))) (tOf (eBin gNe (eMeth [("Lot", f_Lot_box)] "box" (eVar 0) aNil) (eMeth [("Lot", f_Lot_box)] "box" (eVar 1) aNil))))) (sRet (eC (.bl false))) sNil) (sSeq (sIf (tOrM (tOf (eBin gNe (eMeth [("Lot", f_Lot_rows)] "rows" (eMeth [("Lot", f_Lot_core)] "core" (eVar 0) aNil) aNil) (eMeth [("Lot", f_Lot_rows)] "rows" (eMeth [("Lot", f_Lot_core)] "core" (eVar 1) aNil) aNil))) (tOf (eBin gNe (eMeth [("Lot", f_Lot_rows)] "rows" (eMeth [("Lot", f_Lot_still)] "still" (eVar 0) aNil) aNil) (eMeth [("Lot", f_Lot_rows)] "rows" (eMeth [("Lot", f_Lot_still)] "still" (eVar 1) aNil) aNil)))) (sRet (eC (.bl false))) sNil) (sSeq (sAsg (tgN 2) (eFrz (fComp (iAny (eMeth [("Lot", f_Lot_layers)] "layers" (eVar 0) aNil)) (tgN 3) tYesM (eMeth [("Lot", f_Lot_rows)] "rows" (eVar 3) aNil) [3]))) (sRet (eAnd (eBin gEq (eMeth [("Lot", f_Lot_rows)] "rows" (eMeth [("Lot", f_Lot_against)] "against" (eVar 0) aNil) aNil) (eMeth [("Lot", f_Lot_rows)] "rows" (eMeth [("Lot", f_Lot_against)] "against" (eVar 1) aNil) aNil)) (eBin gEq (eVar 2) (eFrz (fComp (iAny (eMeth [("Lot", f_Lot_layers)] "layers" (eVar 1) aNil)) (tgN 3) tYesM (eMeth [("Lot", f_Lot_rows)] "rows" (eVar 3) aNil) [3]))))))))
def f__law_alike_right : MF := mfn 4 2 s__law_alike_right
def s_apart_over : MS := (sSeq (sAsg (tgN 2) (eOwn (fLst aNil))) (sSeq (sFor (iAny (eVar 1)) (tgN 3) (sIf (tOf (eBin gNe (eCall f_sifted (aCons (eVar 0) (aCons (eVar 3) aNil))) (eC (.int 0)))) (sSeq (sExpr (eMut gAppend (eVar 2) (aCons (eVar 3) aNil))) (sAsg (tgN 0) (eCall f_joined_rows (aCons (eVar 0) (aCons (eVar 3) aNil))))) sNil)) (sRet (eFreeze (eVar 2)))))
def f_apart_over : MF := mfn 4 2 s_apart_over
def s_Lot_makers : MS := (sSeq (sAsg (tgN 1) (eCall f_apart_over (aCons (eCall f_core_rows (aCons (eFld ["Lot"] "frame" (eVar 0)) (aCons (eFld ["Lot"] "plain" (eVar 0)) aNil))) (aCons (eFld ["Lot"] "plain" (eVar 0)) aNil)))) (sRet (eOwn (fComp (iAny (eVar 1)) (tgN 2) tYesM (eCall f_face_from (aCons (eFld ["Lot"] "frame" (eVar 0)) (aCons (eVar 2) aNil))) [2]))))
def f_Lot_makers : MF := mfn 3 1 s_Lot_makers
def s__law_makers_right : MS := (sSeq (sFor (iRng1M (eC (.int 2))) (tgN 1) (sSeq (sAsg (tgN 2) (eMeth [("Lot", f_Lot_makers)] "makers" (eVar 0) aNil)) (sSeq (sIf (tOrM (tNotM (tOf (eIsB "list" (eVar 2)))) (tOf (eBin gNe (e1 gLen (eVar 2)) (eBin gSub (eMeth [("Lot", f_Lot_doublings)] "doublings" (eVar 0) aNil) (eMeth [("Lot", f_Lot_doublings)] "doublings" (eMeth [("Lot", f_Lot_core)] "core" (eVar 0) aNil) aNil))))) (sRet (eC (.bl false))) sNil) (sSeq (sIf (tOf (eBin gNe (eMeth [("Lot", f_Lot_rows)] "rows" (eMkF "Lot" f_Lot___init__ (aCons (eMeth [("Lot", f_Lot_box)] "box" (eVar 0) aNil) (aCons (eVar 2) aNil))) aNil) (eMeth [("Lot", f_Lot_rows)] "rows" (eVar 0) aNil))) (sRet (eC (.bl false))) sNil) (sSeq (sFor (iRng1M (e1 gLen (eVar 2))) (tgN 3) (sIf (tOf (eBin gGe (eMeth [("Lot", f_Lot_doublings)] "doublings" (eMkF "Lot" f_Lot___init__ (aCons (eMeth [("Lot", f_Lot_box)] "box" (eVar 0) aNil) (aCons (eBin gAdd (eSl (eVar 2) oNone (oSome (eVar 3))) (eSl (eVar 2) (oSome (eBin gAdd (eVar 3) (eC (.int 1)))) oNone)) aNil))) aNil) (eMeth [("Lot", f_Lot_doublings)] "doublings" (eVar 0) aNil))) (sRet (eC (.bl false))) sNil)) (sSeq (sExpr (eMut gReverse (eVar 2) aNil)) (sExpr (eMut gAppend (eVar 2) (aCons (eC .non) aNil))))))))) (sRet (eC (.bl true))))
def f__law_makers_right : MF := mfn 4 1 s__law_makers_right
def s_Lot_member : MS := (sSeq (sIf (tOrM (tOf (eBin gLt (eVar 1) (eC (.int 0)))) (tOf (eBin gGt (eBin gShr (eVar 1) (e1 gLen (eFld ["Lot"] "plain" (eVar 0)))) (eC (.int 0))))) sNever sNil) (sSeq (sAsg (tgN 2) (eVar 1)) (sSeq (sAsg (tgN 3) (eC (.int 0))) (sSeq (sFor (iAny (eRv (eFld ["Lot"] "plain" (eVar 0)))) (tgN 4) (sSeq (sIf (tOf (eBin gEq (eBin gAnd (eVar 2) (eC (.int 1))) (eC (.int 1)))) (sAsg (tgN 3) (eBin gXor (eVar 3) (eVar 4))) sNil) (sAsg (tgN 2) (eBin gShr (eVar 2) (eC (.int 1)))))) (sRet (eCall f_face_from (aCons (eFld ["Lot"] "frame" (eVar 0)) (aCons (eVar 3) aNil))))))))
def f_Lot_member : MF := mfn 5 2 s_Lot_member
def s_Lot_has : MS := (sRet (eBin gEq (eCall f_sifted (aCons (eFld ["Lot"] "plain" (eVar 0)) (aCons (eCall f_bits_of (aCons (eVar 1) aNil)) aNil))) (eC (.int 0))))
def f_Lot_has : MF := mfn 2 2 s_Lot_has
def s_Lot_number_of : MS := (sSeq (sIf (tNotM (tOf (eMeth [("Lot", f_Lot_has)] "has" (eVar 0) (aCons (eVar 1) aNil)))) (sRet (eC .non)) sNil) (sSeq (sAsg (tgN 2) (eCall f_bits_of (aCons (eVar 1) aNil))) (sSeq (sAsg (tgN 3) (eC (.int 0))) (sSeq (sFor (iAny (eFld ["Lot"] "plain" (eVar 0))) (tgN 4) (sAsg (tgN 3) (eBin gAdd (eBin gMul (eC (.int 2)) (eVar 3)) (e1 gInt (eBin gNe (eBin gAnd (eVar 2) (eCall f_top_bit (aCons (eVar 4) aNil))) (eC (.int 0))))))) (sRet (eVar 3))))))
def f_Lot_number_of : MF := mfn 5 2 s_Lot_number_of
def s_Lot_comb : MS := (sSeq (sAsg (tgN 2) (eCall f_sifted (aCons (eFld ["Lot"] "plain" (eVar 0)) (aCons (eCall f_bits_of (aCons (eVar 1) aNil)) aNil)))) (sSeq (sIf (tOf (eBin gEq (eVar 2) (eC (.int 0)))) (sRet (eC .non)) sNil) (sRet (eCall f_face_from (aCons (eFld ["Lot"] "frame" (eVar 0)) (aCons (eCall f_comb_at (aCons (eFld ["Lot"] "plain" (eVar 0)) (aCons (eCall f_top_bit (aCons (eVar 2) aNil)) aNil))) aNil))))))
def f_Lot_comb : MF := mfn 3 2 s_Lot_comb
def s__law_odd : MS := (sSeq (sAsg (tgN 2) (eC (.int 0))) (sSeq (sFor (iRng1M (e1 gLen (eVar 0))) (tgN 3) (sAsg (tgN 2) (eBin gAdd (eVar 2) (e1 gLen (eFrz (fComp (iRng1M (e1 gLen (eIx (eVar 0) (eVar 3)))) (tgN 4) (tAndM (tOf (eBin gEq (eIx (eIx (eVar 0) (eVar 3)) (eVar 4)) (eC (.str "o")))) (tOf (eBin gEq (eIx (eIx (eVar 1) (eVar 3)) (eVar 4)) (eC (.str "o"))))) (eVar 4) [4])))))) (sRet (eBin gEq (eBin gMod (eVar 2) (eC (.int 2))) (eC (.int 1))))))
def f__law_odd : MF := mfn 5 2 s__law_odd
def s__law_faces_right : MS := (sSeq (sAsg (tgN 4) (eBin gShl (eC (.int 1)) (eMeth [("Lot", f_Lot_doublings)] "doublings" (eVar 2) aNil))) (sSeq (sAsg (tgN 5) (eBin gAdd (eFrz (fComp (iRng1M (eC (.int 2))) (tgN 8) tYesM (eMeth [("Lot", f_Lot_member)] "member" (eVar 2) (aCons (eCall f__law_take (aCons (eVar 0) (aCons (eVar 4) aNil))) aNil)) [8])) (eFrz (fLst (aCons (eMeth [("Lot", f_Lot_member)] "member" (eVar 2) (aCons (eC (.int 0)) aNil)) (aCons (eMeth [("Lot", f_Lot_member)] "member" (eVar 2) (aCons (eBin gSub (eVar 4) (eC (.int 1))) aNil)) aNil)))))) (sSeq (sFor (iAny (eBin gAdd (eVar 5) (eFrz (fComp (iRng1M (eC (.int 3))) (tgN 8) tYesM (eCall f__law_face (aCons (eVar 0) (aCons (eVar 1) aNil))) [8])))) (tgN 6) (sSeq (sIf (tOrM (tOf (eBin gNe (eMeth [("Lot", f_Lot_has)] "has" (eVar 2) (aCons (eVar 6) aNil)) (eMeth [("Lot", f_Lot_has)] "has" (eVar 3) (aCons (eVar 6) aNil)))) (tOf (eBin gNe (eMeth [("Lot", f_Lot_number_of)] "number_of" (eVar 2) (aCons (eVar 6) aNil)) (eMeth [("Lot", f_Lot_number_of)] "number_of" (eVar 3) (aCons (eVar 6) aNil))))) (sRet (eC (.bl false))) sNil) (sSeq (sAsg (tgN 7) (eMeth [("Lot", f_Lot_comb)] "comb" (eVar 2) (aCons (eVar 6) aNil))) (sSeq (sIf (tOrM (tOf (eBin gNe (eMeth [("Lot", f_Lot_comb)] "comb" (eVar 2) (aCons (eVar 6) aNil)) (eVar 7))) (tOf (eBin gNe (eBin gIsN (eVar 7) (eC .non)) (eMeth [("Lot", f_Lot_has)] "has" (eVar 2) (aCons (eVar 6) aNil))))) (sRet (eC (.bl false))) sNil) (sIf (tOf (eBin gIsN (eVar 7) (eC .non))) (sIf (tOf (eBin gNe (eMeth [("Lot", f_Lot_member)] "member" (eVar 2) (aCons (eMeth [("Lot", f_Lot_number_of)] "number_of" (eVar 2) (aCons (eVar 6) aNil)) aNil)) (eVar 6))) (sRet (eC (.bl false))) sNil) (sIf (tOrM (tNotM (tOf (eCall f__law_odd (aCons (eVar 7) (aCons (eVar 6) aNil))))) (tOf (eBin gIn (eC (.bl true)) (eFrz (fComp (iAny (eBin gAdd (eMeth [("Lot", f_Lot_rows)] "rows" (eVar 2) aNil) (eVar 5))) (tgN 9) tYesM (eCall f__law_odd (aCons (eVar 7) (aCons (eVar 9) aNil))) [9]))))) (sRet (eC (.bl false))) sNil)))))) (sRet (eC (.bl true))))))
def f__law_faces_right : MF := mfn 10 4 s__law_faces_right
def s_alike : MS := (sSeq (sExpr (eCall f_need_like (aCons (eVar 0) (aCons (eVar 1) aNil)))) (sRet (eBin gEq (eFld ["Lot"] "plain" (eVar 0)) (eFld ["Lot"] "plain" (eVar 1)))))
def f_alike : MF := mfn 2 2 s_alike
def s__law_pairs_right : MS := (sSeq (sFor (iRng1M (eC (.int 2))) (tgN 3) (sSeq (sAsg (tgN 4) (eIx (eVar 2) (eCall f__law_take (aCons (eVar 0) (aCons (e1 gLen (eVar 2)) aNil))))) (sSeq (sAsg (tgN 5) (eFrz (fLst (aCons (eIx (eVar 2) (eCall f__law_take (aCons (eVar 0) (aCons (e1 gLen (eVar 2)) aNil)))) (aCons (eIx (eVar 2) (eCall f__law_take (aCons (eVar 0) (aCons (e1 gLen (eVar 2)) aNil)))) (aCons (eVar 4) aNil)))))) (sFor (iAny (eBin gAdd (eVar 5) (eSl (eVar 5) oNone (oSome (eC (.int 1)))))) (tgN 6) (sSeq (sPar 7 8 (eMkF "Lot" f_Lot___init__ (aCons (eVar 1) (aCons (eMeth [("Lot", f_Lot_rows)] "rows" (eVar 6) aNil) aNil))) (eMkF "Lot" f_Lot___init__ (aCons (eVar 1) (aCons (eMeth [("Lot", f_Lot_rows)] "rows" (eVar 4) aNil) aNil)))) (sSeq (sIf (tOf (eBin gNe (e1 gRepr (eFrz (fLst (aCons (eCall f_alike (aCons (eVar 6) (aCons (eVar 4) aNil))) (aCons (eCall f_alike (aCons (eVar 4) (aCons (eVar 6) aNil))) aNil))))) (e1 gRepr (eBin gMul (eFrz (fLst (aCons (eBin gEq (eMeth [("Lot", f_Lot_rows)] "rows" (eVar 6) aNil) (eMeth [("Lot", f_Lot_rows)] "rows" (eVar 4) aNil)) aNil))) (eC (.int 2)))))) (sRet (eC (.bl false))) sNil) (sSeq (sIf (tOf (eBin gNe (eMeth [("Lot", f_Lot_rows)] "rows" (eCall f_joined (aCons (eVar 6) (aCons (eVar 4) aNil))) aNil) (eMeth [("Lot", f_Lot_rows)] "rows" (eMkF "Lot" f_Lot___init__ (aCons (eVar 1) (aCons (eBin gAdd (eMeth [("Lot", f_Lot_rows)] "rows" (eVar 6) aNil) (eMeth [("Lot", f_Lot_rows)] "rows" (eVar 4) aNil)) aNil))) aNil))) (sRet (eC (.bl false))) sNil) (sIf (tOf (eBin gNe (eMeth [("Lot", f_Lot_rows)] "rows" (eCall f_met (aCons (eVar 6) (aCons (eVar 4) aNil))) aNil) (eMeth [("Lot", f_Lot_rows)] "rows" (eCall f_met (aCons (eVar 7) (aCons (eVar 8) aNil))) aNil))) (sRet (eC (.bl false))) sNil)))))))) (sRet (eC (.bl true))))
def f__law_pairs_right : MF := mfn 9 3 s__law_pairs_right
def s_law : MS := (sSeq (sAsg (tgN 1) (eCall f__law_bag (aCons (eVar 0) aNil))) (sSeq (sAsg (tgN 2) (eCall f__law_box (aCons (eVar 1) (aCons (eIx (eFrz (fLst (aCons (eC (.int 3)) (aCons (eC (.int 4)) aNil)))) (eCall f__law_take (aCons (eVar 1) (aCons (eC (.int 2)) aNil)))) aNil)))) (sSeq (sAsg (tgN 3) (eCall f__law_told_lots (aCons (eVar 1) (aCons (eVar 2) aNil)))) (sSeq (sFor (iAny (eVar 3)) (tgN 4) (sSeq (sAsg (tgN 5) (eMkF "Lot" f_Lot___init__ (aCons (eVar 2) (aCons (eMeth [("Lot", f_Lot_rows)] "rows" (eVar 4) aNil) aNil)))) (sSeq (sIf (tOrM (tNotM (tOf (eCall f__law_alike_right (aCons (eVar 4) (aCons (eVar 5) aNil))))) (tNotM (tOf (eCall f__law_makers_right (aCons (eVar 4) aNil))))) (sRet (eC (.bl false))) sNil) (sIf (tNotM (tOf (eCall f__law_faces_right (aCons (eVar 1) (aCons (eVar 2) (aCons (eVar 4) (aCons (eVar 5) aNil))))))) (sRet (eC (.bl false))) sNil)))) (sRet (eCall f__law_pairs_right (aCons (eVar 1) (aCons (eVar 2) (aCons (eVar 3) aNil)))))))))
def f_law : MF := mfn 6 1 s_law
/-! ### 4. what the top leaves -/
structure Tx (K : PySem.W.Frag) (mg : Str → Option Value) (cl : Str → Option Addr) : Prop where
  b_abs : mg "abs" = none
  b_all : mg "all" = none
  b_bool : mg "bool" = none
  b_int : mg "int" = none
  b_isinstance : mg "isinstance" = none
  b_len : mg "len" = none
  b_list : mg "list" = none
  b_range : mg "range" = none
  b_repr : mg "repr" = none
  b_sorted : mg "sorted" = none
  b_str : mg "str" = none
  b_tuple : mg "tuple" = none
  g_FLAT : Gc K mg "FLAT" k_FLAT
  g_MOST_FACES : Gc K mg "MOST_FACES" k_MOST_FACES
  g_MOST_SIDE : Gc K mg "MOST_SIDE" k_MOST_SIDE
  g_QUARTERS : Gc K mg "QUARTERS" k_QUARTERS
  g_TURNINGS : Gc K mg "TURNINGS" k_TURNINGS
  t_TURNINGS : Tc K mg "TURNINGS" (He.ga K "TURNINGS") l_TURNINGS
  g_UP : Gc K mg "UP" k_UP
  C_Lot : mg "Lot" = some (.ref (He.ga K "Lot"))
  cl_Lot : cl "Lot" = some (He.ga K "Lot")
  k_Lot : Cls K (He.ga K "Lot")
  mk_Lot : Mk K (He.ga K "Lot") (He.ma K (He.ga K "Lot") "__init__")
  n_frame : FldOk K cl ["Lot"] "frame"
  n_plain : FldOk K cl ["Lot"] "plain"
  m_Lot_against : Meth K (He.ga K "Lot") "against" (He.ma K (He.ga K "Lot") "against")
  m_Lot_box : Meth K (He.ga K "Lot") "box" (He.ma K (He.ga K "Lot") "box")
  m_Lot_comb : Meth K (He.ga K "Lot") "comb" (He.ma K (He.ga K "Lot") "comb")
  m_Lot_core : Meth K (He.ga K "Lot") "core" (He.ma K (He.ga K "Lot") "core")
  m_Lot_doublings : Meth K (He.ga K "Lot") "doublings" (He.ma K (He.ga K "Lot") "doublings")
  m_Lot_has : Meth K (He.ga K "Lot") "has" (He.ma K (He.ga K "Lot") "has")
  m_Lot_layers : Meth K (He.ga K "Lot") "layers" (He.ma K (He.ga K "Lot") "layers")
  m_Lot_makers : Meth K (He.ga K "Lot") "makers" (He.ma K (He.ga K "Lot") "makers")
  m_Lot_member : Meth K (He.ga K "Lot") "member" (He.ma K (He.ga K "Lot") "member")
  m_Lot_number_of : Meth K (He.ga K "Lot") "number_of" (He.ma K (He.ga K "Lot") "number_of")
  m_Lot_rows : Meth K (He.ga K "Lot") "rows" (He.ma K (He.ga K "Lot") "rows")
  m_Lot_still : Meth K (He.ga K "Lot") "still" (He.ma K (He.ga K "Lot") "still")
  g__law_bag : mg "_law_bag" = some (.ref (He.ga K "_law_bag"))
  F__law_bag : ∃ fd, FunD K "_law_bag" "_law_bag" (defArgs st__law_bag) (defBody st__law_bag) (defScope st__law_bag) [] [] (He.ga K "_law_bag") fd
  g__law_take : mg "_law_take" = some (.ref (He.ga K "_law_take"))
  F__law_take : ∃ fd, FunD K "_law_take" "_law_take" (defArgs st__law_take) (defBody st__law_take) (defScope st__law_take) [] [] (He.ga K "_law_take") fd
  g__law_box : mg "_law_box" = some (.ref (He.ga K "_law_box"))
  F__law_box : ∃ fd, FunD K "_law_box" "_law_box" (defArgs st__law_box) (defBody st__law_box) (defScope st__law_box) [] [] (He.ga K "_law_box") fd
  g__law_face : mg "_law_face" = some (.ref (He.ga K "_law_face"))
  F__law_face : ∃ fd, FunD K "_law_face" "_law_face" (defArgs st__law_face) (defBody st__law_face) (defScope st__law_face) [] [] (He.ga K "_law_face") fd
  g__law_turnings : mg "_law_turnings" = some (.ref (He.ga K "_law_turnings"))
  F__law_turnings : ∃ fd, FunD K "_law_turnings" "_law_turnings" (defArgs st__law_turnings) (defBody st__law_turnings) (defScope st__law_turnings) [] [] (He.ga K "_law_turnings") fd
  g__law_spun : mg "_law_spun" = some (.ref (He.ga K "_law_spun"))
  F__law_spun : ∃ fd, FunD K "_law_spun" "_law_spun" (defArgs st__law_spun) (defBody st__law_spun) (defScope st__law_spun) [] [] (He.ga K "_law_spun") fd
  g__law_images : mg "_law_images" = some (.ref (He.ga K "_law_images"))
  F__law_images : ∃ fd, FunD K "_law_images" "_law_images" (defArgs st__law_images) (defBody st__law_images) (defScope st__law_images) [] [] (He.ga K "_law_images") fd
  g__law_over : mg "_law_over" = some (.ref (He.ga K "_law_over"))
  F__law_over : ∃ fd, FunD K "_law_over" "_law_over" (defArgs st__law_over) (defBody st__law_over) (defScope st__law_over) [] [] (He.ga K "_law_over") fd
  g__law_whole : mg "_law_whole" = some (.ref (He.ga K "_law_whole"))
  F__law_whole : ∃ fd, FunD K "_law_whole" "_law_whole" (defArgs st__law_whole) (defBody st__law_whole) (defScope st__law_whole) [] [] (He.ga K "_law_whole") fd
  g__law_seeds : mg "_law_seeds" = some (.ref (He.ga K "_law_seeds"))
  F__law_seeds : ∃ fd, FunD K "_law_seeds" "_law_seeds" (defArgs st__law_seeds) (defBody st__law_seeds) (defScope st__law_seeds) [] [] (He.ga K "_law_seeds") fd
  g_is_whole : mg "is_whole" = some (.ref (He.ga K "is_whole"))
  F_is_whole : ∃ fd, FunD K "is_whole" "is_whole" (defArgs st_is_whole) (defBody st_is_whole) (defScope st_is_whole) [] [] (He.ga K "is_whole") fd
  g_is_side : mg "is_side" = some (.ref (He.ga K "is_side"))
  F_is_side : ∃ fd, FunD K "is_side" "is_side" (defArgs st_is_side) (defBody st_is_side) (defScope st_is_side) [] [] (He.ga K "is_side") fd
  g_is_box : mg "is_box" = some (.ref (He.ga K "is_box"))
  F_is_box : ∃ fd, FunD K "is_box" "is_box" (defArgs st_is_box) (defBody st_is_box) (defScope st_is_box) [] [] (He.ga K "is_box") fd
  g_is_face_row : mg "is_face_row" = some (.ref (He.ga K "is_face_row"))
  F_is_face_row : ∃ fd, FunD K "is_face_row" "is_face_row" (defArgs st_is_face_row) (defBody st_is_face_row) (defScope st_is_face_row) [] [] (He.ga K "is_face_row") fd
  g_is_face : mg "is_face" = some (.ref (He.ga K "is_face"))
  F_is_face : ∃ fd, FunD K "is_face" "is_face" (defArgs st_is_face) (defBody st_is_face) (defScope st_is_face) [] [] (He.ga K "is_face") fd
  g_is_face_of : mg "is_face_of" = some (.ref (He.ga K "is_face_of"))
  F_is_face_of : ∃ fd, FunD K "is_face_of" "is_face_of" (defArgs st_is_face_of) (defBody st_is_face_of) (defScope st_is_face_of) [] [] (He.ga K "is_face_of") fd
  g_are_box_faces : mg "are_box_faces" = some (.ref (He.ga K "are_box_faces"))
  F_are_box_faces : ∃ fd, FunD K "are_box_faces" "are_box_faces" (defArgs st_are_box_faces) (defBody st_are_box_faces) (defScope st_are_box_faces) [] [] (He.ga K "are_box_faces") fd
  g_bits_of : mg "bits_of" = some (.ref (He.ga K "bits_of"))
  F_bits_of : ∃ fd, FunD K "bits_of" "bits_of" (defArgs st_bits_of) (defBody st_bits_of) (defScope st_bits_of) [] [] (He.ga K "bits_of") fd
  g_quarters : mg "quarters" = some (.ref (He.ga K "quarters"))
  F_quarters : ∃ fd, FunD K "quarters" "quarters" (defArgs st_quarters) (defBody st_quarters) (defScope st_quarters) [] [] (He.ga K "quarters") fd
  g_turnings_of : mg "turnings_of" = some (.ref (He.ga K "turnings_of"))
  F_turnings_of : ∃ fd, FunD K "turnings_of" "turnings_of" (defArgs st_turnings_of) (defBody st_turnings_of) (defScope st_turnings_of) [] [] (He.ga K "turnings_of") fd
  g_bit_cells : mg "bit_cells" = some (.ref (He.ga K "bit_cells"))
  F_bit_cells : ∃ fd, FunD K "bit_cells" "bit_cells" (defArgs st_bit_cells) (defBody st_bit_cells) (defScope st_bit_cells) [] [] (He.ga K "bit_cells") fd
  g_cell_bit : mg "cell_bit" = some (.ref (He.ga K "cell_bit"))
  F_cell_bit : ∃ fd, FunD K "cell_bit" "cell_bit" (defArgs st_cell_bit) (defBody st_cell_bit) (defScope st_cell_bit) [] [] (He.ga K "cell_bit") fd
  g_exchanges : mg "exchanges" = some (.ref (He.ga K "exchanges"))
  F_exchanges : ∃ fd, FunD K "exchanges" "exchanges" (defArgs st_exchanges) (defBody st_exchanges) (defScope st_exchanges) [] [] (He.ga K "exchanges") fd
  g_turned_cell : mg "turned_cell" = some (.ref (He.ga K "turned_cell"))
  F_turned_cell : ∃ fd, FunD K "turned_cell" "turned_cell" (defArgs st_turned_cell) (defBody st_turned_cell) (defScope st_turned_cell) [] [] (He.ga K "turned_cell") fd
  g_moves_of : mg "moves_of" = some (.ref (He.ga K "moves_of"))
  F_moves_of : ∃ fd, FunD K "moves_of" "moves_of" (defArgs st_moves_of) (defBody st_moves_of) (defScope st_moves_of) [] [] (He.ga K "moves_of") fd
  g_all_moves : mg "all_moves" = some (.ref (He.ga K "all_moves"))
  F_all_moves : ∃ fd, FunD K "all_moves" "all_moves" (defArgs st_all_moves) (defBody st_all_moves) (defScope st_all_moves) [] [] (He.ga K "all_moves") fd
  g_moved_bits : mg "moved_bits" = some (.ref (He.ga K "moved_bits"))
  F_moved_bits : ∃ fd, FunD K "moved_bits" "moved_bits" (defArgs st_moved_bits) (defBody st_moved_bits) (defScope st_moved_bits) [] [] (He.ga K "moved_bits") fd
  g_top_bit : mg "top_bit" = some (.ref (He.ga K "top_bit"))
  F_top_bit : ∃ fd, FunD K "top_bit" "top_bit" (defArgs st_top_bit) (defBody st_top_bit) (defScope st_top_bit) [] [] (He.ga K "top_bit") fd
  g_sifted : mg "sifted" = some (.ref (He.ga K "sifted"))
  F_sifted : ∃ fd, FunD K "sifted" "sifted" (defArgs st_sifted) (defBody st_sifted) (defScope st_sifted) [] [] (He.ga K "sifted") fd
  g_joined_rows : mg "joined_rows" = some (.ref (He.ga K "joined_rows"))
  F_joined_rows : ∃ fd, FunD K "joined_rows" "joined_rows" (defArgs st_joined_rows) (defBody st_joined_rows) (defScope st_joined_rows) [] [] (He.ga K "joined_rows") fd
  g_lot_rows : mg "lot_rows" = some (.ref (He.ga K "lot_rows"))
  F_lot_rows : ∃ fd, FunD K "lot_rows" "lot_rows" (defArgs st_lot_rows) (defBody st_lot_rows) (defScope st_lot_rows) [] [] (He.ga K "lot_rows") fd
  F_Lot___init__ : ∃ fd, FunD K "__init__" "Lot.__init__" (defArgs st_Lot___init__) (defBody st_Lot___init__) (defScope st_Lot___init__) [] [] (He.ma K (He.ga K "Lot") "__init__") fd
  g_core_rows : mg "core_rows" = some (.ref (He.ga K "core_rows"))
  F_core_rows : ∃ fd, FunD K "core_rows" "core_rows" (defArgs st_core_rows) (defBody st_core_rows) (defScope st_core_rows) [] [] (He.ga K "core_rows") fd
  g_lot_from : mg "lot_from" = some (.ref (He.ga K "lot_from"))
  F_lot_from : ∃ fd, FunD K "lot_from" "lot_from" (defArgs st_lot_from) (defBody st_lot_from) (defScope st_lot_from) [] [] (He.ga K "lot_from") fd
  F_Lot_core : ∃ fd, FunD K "core" "Lot.core" (defArgs st_Lot_core) (defBody st_Lot_core) (defScope st_Lot_core) [] [] (He.ma K (He.ga K "Lot") "core") fd
  g_plain_rows : mg "plain_rows" = some (.ref (He.ga K "plain_rows"))
  F_plain_rows : ∃ fd, FunD K "plain_rows" "plain_rows" (defArgs st_plain_rows) (defBody st_plain_rows) (defScope st_plain_rows) [] [] (He.ga K "plain_rows") fd
  g_still_rows : mg "still_rows" = some (.ref (He.ga K "still_rows"))
  F_still_rows : ∃ fd, FunD K "still_rows" "still_rows" (defArgs st_still_rows) (defBody st_still_rows) (defScope st_still_rows) [] [] (He.ga K "still_rows") fd
  g_comb_at : mg "comb_at" = some (.ref (He.ga K "comb_at"))
  F_comb_at : ∃ fd, FunD K "comb_at" "comb_at" (defArgs st_comb_at) (defBody st_comb_at) (defScope st_comb_at) [] [] (He.ga K "comb_at") fd
  g_against_rows : mg "against_rows" = some (.ref (He.ga K "against_rows"))
  F_against_rows : ∃ fd, FunD K "against_rows" "against_rows" (defArgs st_against_rows) (defBody st_against_rows) (defScope st_against_rows) [] [] (He.ga K "against_rows") fd
  g_met_rows : mg "met_rows" = some (.ref (He.ga K "met_rows"))
  F_met_rows : ∃ fd, FunD K "met_rows" "met_rows" (defArgs st_met_rows) (defBody st_met_rows) (defScope st_met_rows) [] [] (He.ga K "met_rows") fd
  F_Lot_still : ∃ fd, FunD K "still" "Lot.still" (defArgs st_Lot_still) (defBody st_Lot_still) (defScope st_Lot_still) [] [] (He.ma K (He.ga K "Lot") "still") fd
  F_Lot_against : ∃ fd, FunD K "against" "Lot.against" (defArgs st_Lot_against) (defBody st_Lot_against) (defScope st_Lot_against) [] [] (He.ma K (He.ga K "Lot") "against") fd
  g_need_like : mg "need_like" = some (.ref (He.ga K "need_like"))
  F_need_like : ∃ fd, FunD K "need_like" "need_like" (defArgs st_need_like) (defBody st_need_like) (defScope st_need_like) [] [] (He.ga K "need_like") fd
  g_joined : mg "joined" = some (.ref (He.ga K "joined"))
  F_joined : ∃ fd, FunD K "joined" "joined" (defArgs st_joined) (defBody st_joined) (defScope st_joined) [] [] (He.ga K "joined") fd
  g_met : mg "met" = some (.ref (He.ga K "met"))
  F_met : ∃ fd, FunD K "met" "met" (defArgs st_met) (defBody st_met) (defScope st_met) [] [] (He.ga K "met") fd
  F_Lot_layers : ∃ fd, FunD K "layers" "Lot.layers" (defArgs st_Lot_layers) (defBody st_Lot_layers) (defScope st_Lot_layers) [] [] (He.ma K (He.ga K "Lot") "layers") fd
  g__law_told_lots : mg "_law_told_lots" = some (.ref (He.ga K "_law_told_lots"))
  F__law_told_lots : ∃ fd, FunD K "_law_told_lots" "_law_told_lots" (defArgs st__law_told_lots) (defBody st__law_told_lots) (defScope st__law_told_lots) [] [] (He.ga K "_law_told_lots") fd
  g_face_from : mg "face_from" = some (.ref (He.ga K "face_from"))
  F_face_from : ∃ fd, FunD K "face_from" "face_from" (defArgs st_face_from) (defBody st_face_from) (defScope st_face_from) [] [] (He.ga K "face_from") fd
  F_Lot_rows : ∃ fd, FunD K "rows" "Lot.rows" (defArgs st_Lot_rows) (defBody st_Lot_rows) (defScope st_Lot_rows) [] [] (He.ma K (He.ga K "Lot") "rows") fd
  F_Lot_doublings : ∃ fd, FunD K "doublings" "Lot.doublings" (defArgs st_Lot_doublings) (defBody st_Lot_doublings) (defScope st_Lot_doublings) [] [] (He.ma K (He.ga K "Lot") "doublings") fd
  F_Lot_box : ∃ fd, FunD K "box" "Lot.box" (defArgs st_Lot_box) (defBody st_Lot_box) (defScope st_Lot_box) [] [] (He.ma K (He.ga K "Lot") "box") fd
  g__law_alike_right : mg "_law_alike_right" = some (.ref (He.ga K "_law_alike_right"))
  F__law_alike_right : ∃ fd, FunD K "_law_alike_right" "_law_alike_right" (defArgs st__law_alike_right) (defBody st__law_alike_right) (defScope st__law_alike_right) [] [] (He.ga K "_law_alike_right") fd
  g_apart_over : mg "apart_over" = some (.ref (He.ga K "apart_over"))
  F_apart_over : ∃ fd, FunD K "apart_over" "apart_over" (defArgs st_apart_over) (defBody st_apart_over) (defScope st_apart_over) [] [] (He.ga K "apart_over") fd
  F_Lot_makers : ∃ fd, FunD K "makers" "Lot.makers" (defArgs st_Lot_makers) (defBody st_Lot_makers) (defScope st_Lot_makers) [] [] (He.ma K (He.ga K "Lot") "makers") fd
  g__law_makers_right : mg "_law_makers_right" = some (.ref (He.ga K "_law_makers_right"))
  F__law_makers_right : ∃ fd, FunD K "_law_makers_right" "_law_makers_right" (defArgs st__law_makers_right) (defBody st__law_makers_right) (defScope st__law_makers_right) [] [] (He.ga K "_law_makers_right") fd
  F_Lot_member : ∃ fd, FunD K "member" "Lot.member" (defArgs st_Lot_member) (defBody st_Lot_member) (defScope st_Lot_member) [] [] (He.ma K (He.ga K "Lot") "member") fd
  F_Lot_has : ∃ fd, FunD K "has" "Lot.has" (defArgs st_Lot_has) (defBody st_Lot_has) (defScope st_Lot_has) [] [] (He.ma K (He.ga K "Lot") "has") fd
  F_Lot_number_of : ∃ fd, FunD K "number_of" "Lot.number_of" (defArgs st_Lot_number_of) (defBody st_Lot_number_of) (defScope st_Lot_number_of) [] [] (He.ma K (He.ga K "Lot") "number_of") fd
  F_Lot_comb : ∃ fd, FunD K "comb" "Lot.comb" (defArgs st_Lot_comb) (defBody st_Lot_comb) (defScope st_Lot_comb) [] [] (He.ma K (He.ga K "Lot") "comb") fd
  g__law_odd : mg "_law_odd" = some (.ref (He.ga K "_law_odd"))
  F__law_odd : ∃ fd, FunD K "_law_odd" "_law_odd" (defArgs st__law_odd) (defBody st__law_odd) (defScope st__law_odd) [] [] (He.ga K "_law_odd") fd
  g__law_faces_right : mg "_law_faces_right" = some (.ref (He.ga K "_law_faces_right"))
  F__law_faces_right : ∃ fd, FunD K "_law_faces_right" "_law_faces_right" (defArgs st__law_faces_right) (defBody st__law_faces_right) (defScope st__law_faces_right) [] [] (He.ga K "_law_faces_right") fd
  g_alike : mg "alike" = some (.ref (He.ga K "alike"))
  F_alike : ∃ fd, FunD K "alike" "alike" (defArgs st_alike) (defBody st_alike) (defScope st_alike) [] [] (He.ga K "alike") fd
  g__law_pairs_right : mg "_law_pairs_right" = some (.ref (He.ga K "_law_pairs_right"))
  F__law_pairs_right : ∃ fd, FunD K "_law_pairs_right" "_law_pairs_right" (defArgs st__law_pairs_right) (defBody st__law_pairs_right) (defScope st__law_pairs_right) [] [] (He.ga K "_law_pairs_right") fd
  g_law : mg "law" = some (.ref (He.ga K "law"))
  F_law : ∃ fd, FunD K "law" "law" (defArgs st_law) (defBody st_law) (defScope st_law) [] [] (He.ga K "law") fd
end K19

set_option linter.all false
set_option maxRecDepth 100000
namespace K19
open PySem L2 MM
abbrev Cell := Nat → Nat → Bool
def sg (b : Bool) : Nat := if b = true then 111 else 46
def rowS (w : Nat) (r : Nat → Bool) : Str := ⟨((List.range w).map fun x => sg (r x)).toArray⟩
def fD (w h : Nat) (c : Cell) : D := .tup ((List.range h).map fun y => .str (rowS w fun x => c x y))
theorem rowS_congr {w : Nat} {r r' : Nat → Bool} (h : ∀ x, x < w → r x = r' x) : rowS w r = rowS w r' := by
  unfold rowS
  congr 2
  exact List.map_congr_left fun x hx => by rw [h x (List.mem_range.mp hx)]
theorem fD_congr {w h : Nat} {c c' : Cell} (e : ∀ x y, x < w → y < h → c x y = c' x y) : fD w h c = fD w h c' := by
  unfold fD
  congr 1
  exact List.map_congr_left fun y hy => by rw [rowS_congr fun x hx => e x y hx (List.mem_range.mp hy)]
theorem rowS_len (w : Nat) (r : Nat → Bool) : (rowS w r).length = w := by simp [rowS, Str.length]
theorem rowS_cps (w : Nat) (r : Nat → Bool) : (rowS w r).cps.toList = (List.range w).map fun x => sg (r x) := by simp [rowS]
theorem rowS_at {w x : Nat} {r : Nat → Bool} (hx : x < w) : (rowS w r).cps[x]? = some (sg (r x)) := by simp [rowS, hx]
theorem ev_is_face_row {w : Nat} {r : Nat → Bool} (h1 : 1 ≤ w) (h2 : w ≤ 6) (ah : AH) : f_is_face_row [.str (rowS w r)] ah = some (.bl true, ah) := by
  have c : tOrM (tNotM (tOf (eIsB "str" (eVar 0)))) (tNotM (tOf (eChain gLe gLe (eC (.int 1)) (e1 gLen (eVar 0)) (eC k_MOST_SIDE)))) [some (.str (rowS w r)), none] ah = some (false, ah) := by
    have hz : (rowS w r).length ≤ 100000 := by rw [rowS_len]; omega
    rw [tor_f (ah1 := ah) rfl]
    exact tnot_ev (tof_ev (chain_t rfl (len_str rfl hz) rfl (by rw [rowS_len]; omega) (by rw [rowS_len]; omega)))
  have e2 : compGo (tgN 1) tYesM (eOr (eBin gEq (eVar 1) (eC k_UP)) (eBin gEq (eVar 1) (eC k_FLAT))) [some (.str (rowS w r)), none] (signs (rowS w r)) ah = some ((List.range w).map (fun _ => .bl true), ah) := by
    have e3 : signs (rowS w r) = (List.range w).map fun x => .str ⟨#[sg (r x)]⟩ := by
      unfold signs
      rw [rowS_cps, List.map_map]
      rfl
    rw [e3]
    refine compGo_map (i := fun x : Nat => .str ⟨#[sg (r x)]⟩) fun x hx => ⟨_, rfl, rfl, ?_⟩
    cases r x <;> rfl
  have hs : s_is_face_row [some (.str (rowS w r)), none] ah = some (.rt (.bl true), ah) := by
    unfold s_is_face_row
    rw [seq_nx (δ1 := [some (.str (rowS w r)), none]) (ah1 := ah) (by rw [if_f c]; rfl)]
    refine ret_ev (e1_ev (frz_ev ((comp_ev (iAny_str rfl) ?_).trans e2)) ?_)
    · simp [signs, rowS_cps]
      omega
    · have := all_lst ah ((List.range w).map fun _ => true)
      rw [List.map_map] at this
      refine Eq.trans this ?_
      rw [List.all_map]
      congr 2
      simp
  exact (fn_rt rfl hs).trans (by rw [trim_self])
theorem fD_row {w h y : Nat} {c : Cell} (hy : y < h) : ((List.range h).map fun y => D.str (rowS w fun x => c x y))[y]? = some (.str (rowS w fun x => c x y)) := by simp [hy]
theorem ix_tup {m b : ME} {δ : DL} {ah ah1 ah2 : AH} {l : List D} {i : Nat} {d : D} (h : m δ ah = some (.tup l, ah1)) (hb : b δ ah1 = some (.int (i : Nat), ah2)) (e : l[i]? = some d) : eIx m b δ ah = some (d, ah2) := by
  refine bin_ev h hb ?_
  have hi := (List.getElem?_eq_some_iff.mp e).1
  simp [gIx, asK, atI, ixN, hi]
  exact (List.getElem?_eq_some_iff.mp e).2
theorem ev_is_face {w h : Nat} {c : Cell} (h1 : 1 ≤ w) (h2 : w ≤ 6) (h3 : 1 ≤ h) (h4 : h ≤ 6) (ah : AH) : f_is_face [fD w h c] ah = some (.bl true, ah) := by
  have t0 : tOrM (tNotM (tOf (eIsB "tuple" (eVar 0)))) (tNotM (tOf (eChain gLe gLe (eC (.int 1)) (e1 gLen (eVar 0)) (eC k_MOST_SIDE)))) [some (fD w h c), none] ah = some (false, ah) := by
    rw [tor_f (ah1 := ah) rfl]
    exact tnot_ev (tof_ev (chain_t rfl (len_tup rfl) rfl (by simp; omega) (by simp; omega)))
  have e2 : compGo (tgN 1) tYesM (eCall f_is_face_row (aCons (eVar 1) aNil)) [some (fD w h c), none] ((List.range h).map fun y => D.str (rowS w fun x => c x y)) ah = some ((List.range h).map (fun _ => .bl true), ah) :=
    compGo_map (i := fun y : Nat => D.str (rowS w fun x => c x y)) fun y hy => ⟨_, rfl, rfl, (call_ev rfl).trans (ev_is_face_row h1 h2 _)⟩
  have e3 : compGo (tgN 1) tYesM (eBin gEq (e1 gLen (eVar 1)) (e1 gLen (eIx (eVar 0) (eC (.int 0))))) [some (fD w h c), none] ((List.range h).map fun y => D.str (rowS w fun x => c x y)) ah = some ((List.range h).map (fun _ => .bl true), ah) :=
    compGo_map (i := fun y : Nat => D.str (rowS w fun x => c x y)) fun y hy => ⟨_, rfl, rfl, bin_ev (len_str rfl (by rw [rowS_len]; omega)) (len_str (ix_tup rfl rfl (fD_row (y := 0) (by omega))) (by rw [rowS_len]; omega)) (by simp [gEq, dEq, rowS_len])⟩
  have all : gAll ah (.lst ((List.range h).map fun _ => .bl true)) = some (.bl true) := by
    have := all_lst ah ((List.range h).map fun _ => true)
    rw [List.map_map] at this
    refine Eq.trans this ?_
    rw [List.all_map]
    congr 2
    simp
  have hs : s_is_face [some (fD w h c), none] ah = some (.rt (.bl true), ah) := by
    unfold s_is_face
    rw [seq_nx (δ1 := [some (fD w h c), none]) (ah1 := ah) (by rw [if_f t0]; rfl)]
    refine ret_ev ?_
    rw [and_t (e1_ev (frz_ev ((comp_ev (iAny_tup rfl) (by simp; omega)).trans e2)) all)]
    exact e1_ev (frz_ev ((comp_ev (iAny_tup rfl) (by simp; omega)).trans e3)) all
  exact (fn_rt rfl hs).trans (by rw [trim_self])
theorem glue_go (f : Nat → Nat) : ∀ (r : List Nat) (acc : Array Nat), (r.map fun i => (⟨#[f i]⟩ : Str)).foldl (fun acc p => acc ++ ("" : Str).cps ++ p.cps) acc = acc ++ (r.map f).toArray
  | [], acc => by simp
  | i :: r, acc => by
    rw [List.map_cons, List.foldl_cons, glue_go f r]
    have e : ("" : Str).cps = #[] := rfl
    rw [e]
    simp
theorem join_signs (f : Nat → Nat) (l : List Nat) : Txt.join ("" : Str) (l.map fun i => ⟨#[f i]⟩) = ⟨(l.map f).toArray⟩ := by
  show Builtin.Str.glued ("" : Str) (l.map fun i => ⟨#[f i]⟩) = _
  unfold Builtin.Str.glued
  cases l with
  | nil => rfl
  | cons i r =>
    show (⟨(r.map fun i => (⟨#[f i]⟩ : Str)).foldl (fun acc p => acc ++ ("" : Str).cps ++ p.cps) #[f i]⟩ : Str) = _
    rw [glue_go]
    simp
theorem sum_ones (f : Nat → Nat) : ∀ l : List Nat, ((l.map fun i => (⟨#[f i]⟩ : Str)).map PySem.Str.length).sum = l.length
  | [] => rfl
  | i :: r => by
    rw [List.map_cons, List.map_cons, List.sum_cons, sum_ones f r, List.length_cons]
    show 1 + r.length = _
    omega
theorem join_ev {o a : ME} {δ : DL} {ah ah1 ah2 : AH} {f : Nat → Nat} {l : List Nat} (h1 : o δ ah = some (.str "", ah1)) (h2 : a δ ah1 = some (.lst (l.map fun i => .str ⟨#[f i]⟩), ah2)) (hl : l.length ≤ 1000) : eJoin o a δ ah = some (.str ⟨(l.map f).toArray⟩, ah2) := by
  refine bin_ev h1 h2 ?_
  have e0 : ("" : Str).length = 0 := rfl
  simp only [gJoin, asL, Option.bind_some, strs_map]
  rw [if_pos (by rw [sum_ones, e0]; omega), join_signs]
theorem rowS_rev (w : Nat) (r : Nat → Bool) : (⟨(rowS w r).cps.toList.reverse.toArray⟩ : Str) = rowS w fun x => r (w - 1 - x) := by
  unfold rowS
  congr 1
  simp only [List.toList_toArray]
  rw [← List.map_reverse, ← PySem.W.krv_range, List.map_map]
  rfl
theorem rv_str {m : ME} {δ : DL} {ah ah1 : AH} {z : Str} (h : m δ ah = some (.str z, ah1)) (hz : z.length ≤ 100000) : eRv m δ ah = some (.str ⟨z.cps.toList.reverse.toArray⟩, ah1) := by
  simp [eRv, orE, eRevS, h, hz]
theorem rv_tup {m : ME} {δ : DL} {ah ah1 : AH} {l : List D} (h : m δ ah = some (.tup l, ah1)) : eRv m δ ah = some (.tup l.reverse, ah1) := by
  simp [eRv, orE, eRevS, h]
theorem tup_lst (ah : AH) (l : List D) : gTuple ah (.lst l) = some (.tup l) := rfl
def mirC (w : Nat) (c : Cell) : Cell := fun x y => c (w - 1 - x) y
def rotC (h : Nat) (c : Cell) : Cell := fun x y => c y (h - 1 - x)
theorem ix_str {m b : ME} {δ : DL} {ah ah1 ah2 : AH} {z : Str} {i c : Nat} (h : m δ ah = some (.str z, ah1)) (hb : b δ ah1 = some (.int (i : Nat), ah2)) (hz : z.length ≤ 100000) (e : z.cps.toList[i]? = some c) : eIx m b δ ah = some (.str ⟨#[c]⟩, ah2) := by
  refine bin_ev h hb ?_
  have hi := (List.getElem?_eq_some_iff.mp e).1
  have hi2 : i < z.cps.size := by simpa using hi
  simp only [gIx, asK, hz, if_true]
  rw [atI, ixN, if_pos (by omega), if_pos (by simpa using hi2)]
  show Option.map _ (z.cps.toList[((i : Nat) : Int).toNat]?) = _
  rw [Int.toNat_natCast, e]
  rfl
theorem rowS_get {w x : Nat} {r : Nat → Bool} (hx : x < w) : (rowS w r).cps.toList[x]? = some (sg (r x)) := by
  rw [rowS_cps]
  simp [hx]
theorem set_end (ah : AH) (o u : AO) : (ah ++ [o]).set ah.length u = ah ++ [u] := by simp
theorem lstAt_end (ah : AH) (l : List D) : lstAt (ah ++ [.lst l]) ah.length = some l := by simp [lstAt]
theorem app_ev {k : Nat} {e : ME} {δ : DL} {ah : AH} {acc : List D} {d : D} (hk : δ[k]? = some (some (.ptr ah.length))) (he : e δ (ah ++ [.lst acc]) = some (d, ah ++ [.lst acc])) (hl : acc.length < 100000) : eMut gAppend (eVar k) (aCons e aNil) δ (ah ++ [.lst acc]) = some (.non, ah ++ [.lst (acc ++ [d])]) := by
  have h1 : eVar k δ (ah ++ [.lst acc]) = some (.ptr ah.length, ah ++ [.lst acc]) := by simp [eVar, hk]
  simp [eMut, h1, aCons, aNil, he, lstAt_end, gAppend, hl, set_end]
theorem app_loop {g : D → DL → Option DL} {k : Nat} {e : ME} {α : Type} {i : α → D} {F : α → D} {ah : AH} {J : DL → Prop} : ∀ {l : List α} {acc : List D} {δ : DL}, J δ → acc.length + l.length < 100000 →
    (∀ x ∈ l, ∀ δ, J δ → ∃ δ1, g (i x) δ = some δ1 ∧ J δ1 ∧ δ1[k]? = some (some (.ptr ah.length)) ∧ ∀ ah1, e δ1 ah1 = some (F x, ah1)) →
    ∃ δ', J δ' ∧ forGo g (sExpr (eMut gAppend (eVar k) (aCons e aNil))) (l.map i) δ (ah ++ [.lst acc]) = some (.nx δ', ah ++ [.lst (acc ++ l.map F)])
  | [], acc, δ, hj, hl, h => ⟨δ, hj, by simp [forGo, sNil]⟩
  | x :: r, acc, δ, hj, hl, h => by
    simp only [List.length_cons] at hl
    obtain ⟨δ1, h1, h2, h3, h4⟩ := h x (by simp) δ hj
    obtain ⟨δ', k1, k2⟩ := app_loop (g := g) (k := k) (e := e) (i := i) (F := F) (ah := ah) (J := J) (l := r) (acc := acc ++ [F x]) (δ := δ1) h2 (by simp; omega) fun y hy => h y (by simp [hy])
    refine ⟨δ', k1, ?_⟩
    have e1 := exp_ev (app_ev (acc := acc) h3 (h4 _) (by omega))
    simp only [List.map_cons, forGo, h1, e1, Option.bind_some, k2]
    simp
theorem zip_map {α : Type} (f g : α → D) : ∀ l : List α, zipD (l.map f) (l.map g) = l.map fun x => .tup [f x, g x]
  | [] => rfl
  | x :: r => by rw [List.map_cons, List.map_cons, zipD, zip_map f g r, List.map_cons]
theorem zip_ev {a b : ME} {δ : DL} {ah ah1 ah2 : AH} {x y : D} {l m : List D} (h1 : a δ ah = some (x, ah1)) (h2 : b δ ah1 = some (y, ah2)) (e1 : gIter x = some l) (e2 : gIter y = some m) : iZipM a b δ ah = some (zipD l m, ah2) := by
  simp [iZipM, h1, h2, e1, e2]
theorem signs_row (w : Nat) (r : Nat → Bool) : signs (rowS w r) = (List.range w).map fun x => .str ⟨#[sg (r x)]⟩ := by
  unfold signs
  rw [rowS_cps, List.map_map]
  rfl
theorem tup_ptr {k : Nat} {δ : DL} {ah : AH} {l : List D} (hk : δ[k]? = some (some (.ptr ah.length))) : e1 gTuple (eVar k) δ (ah ++ [.lst l]) = some (.tup l, ah ++ [.lst l]) := by
  have h1 : eVar k δ (ah ++ [.lst l]) = some (.ptr ah.length, ah ++ [.lst l]) := by simp [eVar, hk]
  refine e1_ev h1 ?_
  simp [gTuple, asL]
def xorC (c e : Cell) : Cell := fun x y => c x y != e x y
theorem fD_bd (n w h : Nat) (c : Cell) : D.bd n (fD w h c) = true := by
  have : ∀ l : List Nat, D.bds n (l.map fun y => .str (rowS w fun x => c x y)) = true := fun l => by
    induction l with
    | nil => rfl
    | cons a r ih => simp [D.bds, D.bd, ih]
  simp [fD, D.bd, this]
theorem trim_app {ah g : AH} {d : D} (hd : D.bd ah.length d = true) (hb : Bd ah) : trim ah (d, ah ++ g) = (d, ah) := trim_len rfl hd hb
def pD (p : Int × Int) : D := .tup [.int p.1, .int p.2]
theorem ext_ev {k : Nat} {e : ME} {δ : DL} {ah : AH} {acc m : List D} (hk : δ[k]? = some (some (.ptr ah.length))) (he : e δ (ah ++ [.lst acc]) = some (.lst m, ah ++ [.lst acc])) (hl : acc.length + m.length ≤ 100000) : eMut gExtend (eVar k) (aCons e aNil) δ (ah ++ [.lst acc]) = some (.non, ah ++ [.lst (acc ++ m)]) := by
  have h1 : eVar k δ (ah ++ [.lst acc]) = some (.ptr ah.length, ah ++ [.lst acc]) := by simp [eVar, hk]
  simp [eMut, h1, aCons, aNil, he, lstAt_end, gExtend, asL, hl, set_end]
theorem ext_loop {g : D → DL → Option DL} {k : Nat} {e : ME} {α : Type} {i : α → D} {F : α → List D} {ah : AH} {J : DL → Prop} {B : Nat} : ∀ {l : List α} {acc : List D} {δ : DL}, J δ → (∀ x ∈ l, (F x).length ≤ B) → acc.length + l.length * B ≤ 100000 →
    (∀ x ∈ l, ∀ δ, J δ → ∃ δ1, g (i x) δ = some δ1 ∧ J δ1 ∧ δ1[k]? = some (some (.ptr ah.length)) ∧ ∀ ah1, e δ1 ah1 = some (.lst (F x), ah1)) →
    ∃ δ', J δ' ∧ forGo g (sExpr (eMut gExtend (eVar k) (aCons e aNil))) (l.map i) δ (ah ++ [.lst acc]) = some (.nx δ', ah ++ [.lst (acc ++ l.flatMap F)])
  | [], acc, δ, hj, hB, hl, h => ⟨δ, hj, by simp [forGo, sNil]⟩
  | x :: r, acc, δ, hj, hB, hl, h => by
    rw [List.length_cons, Nat.succ_mul] at hl
    have hx := hB x (by simp)
    obtain ⟨δ1, h1, h2, h3, h4⟩ := h x (by simp) δ hj
    obtain ⟨δ', k1, k2⟩ := ext_loop (g := g) (k := k) (e := e) (i := i) (F := F) (ah := ah) (J := J) (B := B) (l := r) (acc := acc ++ F x) (δ := δ1) h2 (fun y hy => hB y (by simp [hy])) (by rw [List.length_append]; omega) fun y hy => h y (by simp [hy])
    refine ⟨δ', k1, ?_⟩
    have e1 := exp_ev (ext_ev (acc := acc) h3 (h4 _) (by omega))
    simp only [List.map_cons, forGo, h1, e1, Option.bind_some, k2]
    simp
structure Rep (w h : Nat) (c : Cell) (cs : List (Int × Int)) : Prop where
  inn : ∀ p ∈ cs, ∃ x y : Nat, p = (((x : Nat) : Int), ((y : Nat) : Int)) ∧ x < w ∧ y < h ∧ c x y = true
  all : ∀ x y : Nat, x < w → y < h → c x y = true → (((x : Nat) : Int), ((y : Nat) : Int)) ∈ cs
theorem Rep.mir {w h : Nat} {c : Cell} {cs : List (Int × Int)} (r : Rep w h c cs) : Rep w h (mirC w c) (cs.map fun p => ((w : Int) - 1 - p.1, p.2)) := by
  constructor
  · intro p hp
    obtain ⟨q, hq, rfl⟩ := List.mem_map.mp hp
    obtain ⟨x, y, rfl, hx, hy, hc⟩ := r.inn q hq
    refine ⟨w - 1 - x, y, ?_, by omega, hy, ?_⟩
    · exact Prod.ext (by show (w : Int) - 1 - (x : Int) = ((w - 1 - x : Nat) : Int); omega) rfl
    · unfold mirC
      rw [show w - 1 - (w - 1 - x) = x by omega]
      exact hc
  · intro x y hx hy hc
    refine List.mem_map.mpr ⟨_, r.all (w - 1 - x) y (by omega) hy hc, ?_⟩
    exact Prod.ext (by show (w : Int) - 1 - ((w - 1 - x : Nat) : Int) = (x : Int); omega) rfl
theorem Rep.rot {w h : Nat} {c : Cell} {cs : List (Int × Int)} (r : Rep w h c cs) : Rep h w (rotC h c) (cs.map fun p => ((h : Int) - 1 - p.2, p.1)) := by
  constructor
  · intro p hp
    obtain ⟨q, hq, rfl⟩ := List.mem_map.mp hp
    obtain ⟨x, y, rfl, hx, hy, hc⟩ := r.inn q hq
    refine ⟨h - 1 - y, x, ?_, by omega, hx, ?_⟩
    · exact Prod.ext (by show (h : Int) - 1 - (y : Int) = ((h - 1 - y : Nat) : Int); omega) rfl
    · unfold rotC
      rw [show h - 1 - (h - 1 - y) = y by omega]
      exact hc
  · intro x y hx hy hc
    refine List.mem_map.mpr ⟨_, r.all y (h - 1 - x) hy (by omega) hc, ?_⟩
    exact Prod.ext (by show (h : Int) - 1 - ((h - 1 - x : Nat) : Int) = (x : Int); omega) rfl
theorem Rep.mem {w h : Nat} {c : Cell} {cs : List (Int × Int)} (r : Rep w h c cs) {x y : Nat} (hx : x < w) (hy : y < h) : decide (pD (((x : Nat) : Int), ((y : Nat) : Int)) ∈ cs.map pD) = c x y := by
  have inj : ∀ p q, pD p = pD q → p = q := fun p q e => by
    simp only [pD, D.tup.injEq, List.cons.injEq, D.int.injEq, and_true] at e
    exact Prod.ext e.1 e.2
  cases hc : c x y with
  | true =>
    exact decide_eq_true (List.mem_map.mpr ⟨_, r.all x y hx hy hc, rfl⟩)
  | false =>
    refine decide_eq_false fun hm => ?_
    obtain ⟨p, hp, e⟩ := List.mem_map.mp hm
    rw [inj _ _ e] at hp
    obtain ⟨x', y', e2, _, _, hc'⟩ := r.inn _ hp
    simp only [Prod.mk.injEq] at e2
    have ex : x' = x := by omega
    have ey : y' = y := by omega
    rw [ex, ey, hc] at hc'
    cases hc'
theorem pD_all (cs : List (Int × Int)) : (cs.map pD).all (pb 1) = true := by
  rw [List.all_map, List.all_eq_true]
  intro p _
  rfl
abbrev Box := Nat × Nat × Cell
def fB (b : Box) : D := fD b.1 b.2.1 b.2.2
def stepB (b : Box) : Box := (b.2.1, b.1, rotC b.2.1 b.2.2)
def stepK : Nat → Box → Box
  | 0, b => b
  | k + 1, b => stepB (stepK k b)
def turnB (m : Bool) (q : Nat) (b : Box) : Box := stepK q (if m = true then (b.1, b.2.1, mirC b.1 b.2.2) else b)
def tz (m : Bool) (q : Nat) : Str := ⟨#[if m = true then 109 else 114, 48 + q]⟩
def Small (b : Box) : Prop := 1 ≤ b.1 ∧ b.1 ≤ 6 ∧ 1 ≤ b.2.1 ∧ b.2.1 ≤ 6
theorem Small.step {b : Box} (h : Small b) : Small (stepB b) := ⟨h.2.2.1, h.2.2.2, h.1, h.2.1⟩
theorem Small.stepK {b : Box} (h : Small b) : ∀ k, Small (stepK k b)
  | 0 => h
  | k + 1 => (Small.stepK h k).step
theorem pt_comp {cs : List (Int × Int)} {F : Int × Int → Int × Int} {δ : DL} {ah : AH} {a b : ME} (hcs : cs.length ≤ 100000) (h2 : δ[2]? = some (some (.lst (cs.map pD)))) (hl : δ.length = 8)
    (hab : ∀ p : Int × Int, ∀ δ1 : DL, δ1 = ((wipeD δ [7, 3]).set 7 (some (.int p.1))).set 3 (some (.int p.2)) → a δ1 ah = some (.int (F p).1, ah) ∧ b δ1 ah = some (.int (F p).2, ah)) :
    eFrz (fComp (iAny (eVar 2)) (tgT (tgCons (tgN 7) (tgCons (tgN 3) tgNil))) tYesM (eTup (aCons a (aCons b aNil))) [7, 3]) δ ah = some (.lst ((cs.map F).map pD), ah) := by
  have v2 : eVar 2 δ ah = some (.lst (cs.map pD), ah) := by simp [eVar, h2]
  refine frz_ev ((comp_ev (iAny_lst v2) (by rw [List.length_map]; exact hcs)).trans ?_)
  rw [List.map_map]
  refine compGo_map (i := pD) fun p hp => ⟨_, rfl, rfl, ?_⟩
  obtain ⟨e1, e2⟩ := hab p _ rfl
  simp [eTup, aCons, aNil, e1, e2, pD]
def cells0 (b : Box) : List (Int × Int) := (List.range b.2.1).flatMap fun y => ((List.range b.1).filter fun x => b.2.2 x y).map fun x => (((x : Nat) : Int), ((y : Nat) : Int))
theorem cells0_rep (b : Box) : Rep b.1 b.2.1 b.2.2 (cells0 b) := by
  constructor
  · intro p hp
    obtain ⟨y, hy, hp⟩ := List.mem_flatMap.mp hp
    obtain ⟨x, hx, rfl⟩ := List.mem_map.mp hp
    obtain ⟨hx, hc⟩ := List.mem_filter.mp hx
    exact ⟨x, y, rfl, List.mem_range.mp hx, List.mem_range.mp hy, hc⟩
  · intro x y hx hy hc
    exact List.mem_flatMap.mpr ⟨y, List.mem_range.mpr hy, List.mem_map.mpr ⟨x, List.mem_filter.mpr ⟨List.mem_range.mpr hx, hc⟩, rfl⟩⟩
theorem flat_len {α β : Type} {B : Nat} (f : α → List β) : ∀ {l : List α}, (∀ x ∈ l, (f x).length ≤ B) → (l.flatMap f).length ≤ l.length * B
  | [], _ => by simp
  | a :: r, h => by
    have := flat_len (B := B) f (l := r) fun x hx => h x (by simp [hx])
    have h2 := h a (by simp)
    rw [List.flatMap_cons, List.length_append, List.length_cons, Nat.succ_mul]
    omega
theorem cells0_len {b : Box} (hs : Small b) : (cells0 b).length ≤ 36 := by
  have := flat_len (B := 6) (fun y => ((List.range b.1).filter fun x => b.2.2 x y).map fun x => (((x : Nat) : Int), ((y : Nat) : Int))) (l := List.range b.2.1) fun y _ => by
    rw [List.length_map]
    refine Nat.le_trans (List.length_filter_le _ _) ?_
    rw [List.length_range]
    exact hs.2.1
  rw [List.length_range] at this
  have h6 := hs.2.2.2
  show (List.flatMap _ _).length ≤ 36
  omega
structure Jst (T : D) (δ : DL) (b : Box) (cs : List (Int × Int)) : Prop where
  len : δ.length = 8
  t : δ[1]? = some (some T)
  ls : δ[2]? = some (some (.lst (cs.map pD)))
  w : δ[4]? = some (some (.int b.1))
  h : δ[5]? = some (some (.int b.2.1))
  rep : Rep b.1 b.2.1 b.2.2 cs
  sz : cs.length ≤ 36
  sm : Small b
theorem get_set_ne {δ : DL} {i j : Nat} {x : Option D} (h : i ≠ j) : (δ.set i x)[j]? = δ[j]? := List.getElem?_set_ne h
theorem get_set {δ : DL} {i : Nat} {x : Option D} (h : i < δ.length) : (δ.set i x)[i]? = some x := List.getElem?_set_self h
theorem wipe_get_ne {δ : DL} {j : Nat} : ∀ {vs : List Nat}, j ∉ vs → (wipeD δ vs)[j]? = δ[j]?
  | [], _ => rfl
  | v :: vs, h => by
    rw [wipeD, get_set_ne (fun e => h (by simp [e])), wipe_get_ne fun hm => h (by simp [hm])]
theorem wipe_len {δ : DL} {vs : List Nat} : (wipeD δ vs).length = δ.length := wipeD_length δ vs
theorem var_ev {i : Nat} {δ : DL} {ah : AH} {d : D} (h : δ[i]? = some (some d)) : eVar i δ ah = some (d, ah) := by simp [eVar, h]
theorem sub_ev {a b : ME} {δ : DL} {ah ah1 ah2 : AH} {i j : Int} (h1 : a δ ah = some (.int i, ah1)) (h2 : b δ ah1 = some (.int j, ah2)) : eBin gSub a b δ ah = some (.int (i - j), ah2) := bin_ev h1 h2 rfl
theorem idx0123 {q : Nat} (hq : q ≤ 3) (ah : AH) : gSIndex ah (.str "0123") (.str ⟨#[48 + q]⟩) = some (.int (q : Nat)) := by
  match q, hq with
  | 0, _ =>
    have e : Builtin.Str.occurrences ("0123" : Str) ⟨#[48]⟩ 0 ("0123" : Str).length 1 = [0] := by decide +kernel
    show (match Builtin.Str.occurrences ("0123" : Str) ⟨#[48]⟩ 0 ("0123" : Str).length 1 with | i :: _ => some (D.int (i : Nat)) | [] => none) = _
    rw [e]
  | 1, _ =>
    have e : Builtin.Str.occurrences ("0123" : Str) ⟨#[49]⟩ 0 ("0123" : Str).length 1 = [1] := by decide +kernel
    show (match Builtin.Str.occurrences ("0123" : Str) ⟨#[49]⟩ 0 ("0123" : Str).length 1 with | i :: _ => some (D.int (i : Nat)) | [] => none) = _
    rw [e]
  | 2, _ =>
    have e : Builtin.Str.occurrences ("0123" : Str) ⟨#[50]⟩ 0 ("0123" : Str).length 1 = [2] := by decide +kernel
    show (match Builtin.Str.occurrences ("0123" : Str) ⟨#[50]⟩ 0 ("0123" : Str).length 1 with | i :: _ => some (D.int (i : Nat)) | [] => none) = _
    rw [e]
  | 3, _ =>
    have e : Builtin.Str.occurrences ("0123" : Str) ⟨#[51]⟩ 0 ("0123" : Str).length 1 = [3] := by decide +kernel
    show (match Builtin.Str.occurrences ("0123" : Str) ⟨#[51]⟩ 0 ("0123" : Str).length 1 with | i :: _ => some (D.int (i : Nat)) | [] => none) = _
    rw [e]
theorem spun_loop {T : D} {ah : AH} {q : Nat} {b : Box} : ∀ {δ : DL} {cs : List (Int × Int)}, Jst T δ b cs → ∃ δ' cs', Jst T δ' (stepK q b) cs' ∧
    forGo (tgN 6) (sSeq (sAsg (tgN 2) (eFrz (fComp (iAny (eVar 2)) (tgT (tgCons (tgN 7) (tgCons (tgN 3) tgNil))) tYesM (eTup (aCons (eBin gSub (eBin gSub (eVar 5) (eC (.int 1))) (eVar 3)) (aCons (eVar 7) aNil))) [7, 3]))) (sAsg (tgT (tgCons (tgN 4) (tgCons (tgN 5) tgNil))) (eTup (aCons (eVar 5) (aCons (eVar 4) aNil))))) ((List.range q).map fun i => .int (i : Nat)) δ ah = some (.nx δ', ah) := by
  intro δ cs j
  obtain ⟨δ', ah', k1, k2⟩ := forGo_inv (g := tgN 6) (b := sSeq (sAsg (tgN 2) (eFrz (fComp (iAny (eVar 2)) (tgT (tgCons (tgN 7) (tgCons (tgN 3) tgNil))) tYesM (eTup (aCons (eBin gSub (eBin gSub (eVar 5) (eC (.int 1))) (eVar 3)) (aCons (eVar 7) aNil))) [7, 3]))) (sAsg (tgT (tgCons (tgN 4) (tgCons (tgN 5) tgNil))) (eTup (aCons (eVar 5) (aCons (eVar 4) aNil)))))
    (I := fun dn δ ah' => ah' = ah ∧ ∃ cs, Jst T δ (stepK dn.length b) cs) (l := (List.range q).map fun i => .int (i : Nat)) (done := []) ⟨rfl, cs, j⟩ fun dn d r δ ah' _ ⟨e, cs, j⟩ => by
      subst e
      have w4 := j.len
      have c1 := pt_comp (cs := cs) (F := fun p => (((stepK dn.length b).2.1 : Int) - 1 - p.2, p.1)) (δ := δ.set 6 (some d)) (ah := ah') (a := eBin gSub (eBin gSub (eVar 5) (eC (.int 1))) (eVar 3)) (b := eVar 7) (by have := j.sz; omega) (by rw [get_set_ne (by decide)]; exact j.ls) (by simpa using w4) fun p δ1 e => by
        subst e
        have l8 : (wipeD (δ.set 6 (some d)) [7, 3]).length = 8 := by rw [wipe_len]; simpa using w4
        refine ⟨sub_ev (sub_ev (var_ev (d := .int (stepK dn.length b).2.1) ?_) rfl) (var_ev ?_), var_ev ?_⟩
        · rw [get_set_ne (by decide), get_set_ne (by decide), wipe_get_ne (by decide), get_set_ne (by decide)]
          exact j.h
        · exact get_set (by simp [l8])
        · rw [get_set_ne (by decide)]
          exact get_set (by rw [l8]; decide)
      have l8 : ((δ.set 6 (some d)).set 2 (some (.lst ((cs.map fun p => (((stepK dn.length b).2.1 : Int) - 1 - p.2, p.1)).map pD)))).length = 8 := by simpa using w4
      refine ⟨_, (((δ.set 6 (some d)).set 2 (some (.lst ((cs.map fun p => (((stepK dn.length b).2.1 : Int) - 1 - p.2, p.1)).map pD)))).set 4 (some (.int (stepK dn.length b).2.1))).set 5 (some (.int (stepK dn.length b).1)), _, rfl, ?_, rfl, cs.map (fun p => (((stepK dn.length b).2.1 : Int) - 1 - p.2, p.1)), ?_⟩
      · rw [seq_nx (asg_ev c1)]
        have v5 : eVar 5 ((δ.set 6 (some d)).set 2 (some (.lst ((cs.map fun p => (((stepK dn.length b).2.1 : Int) - 1 - p.2, p.1)).map pD)))) ah' = some (.int (stepK dn.length b).2.1, ah') := var_ev (by rw [get_set_ne (by decide), get_set_ne (by decide)]; exact j.h)
        have v4 : eVar 4 ((δ.set 6 (some d)).set 2 (some (.lst ((cs.map fun p => (((stepK dn.length b).2.1 : Int) - 1 - p.2, p.1)).map pD)))) ah' = some (.int (stepK dn.length b).1, ah') := var_ev (by rw [get_set_ne (by decide), get_set_ne (by decide)]; exact j.w)
        simp only [sAsg, eTup, aCons, aNil, v5, v4, Option.bind_some, Option.map_some]
        rfl
      · rw [List.length_append, List.length_singleton]
        refine ⟨by simpa using w4, ?_, ?_, ?_, ?_, j.rep.rot, by rw [List.length_map]; exact j.sz, j.sm.step⟩
        · rw [get_set_ne (by decide), get_set_ne (by decide), get_set_ne (by decide), get_set_ne (by decide)]; exact j.t
        · rw [get_set_ne (by decide), get_set_ne (by decide)]; exact get_set (by simp [w4])
        · rw [get_set_ne (by decide)]; exact get_set (by rw [l8]; decide)
        · exact get_set (by simp [w4])
  obtain ⟨rfl, cs', j'⟩ := k2
  rw [List.nil_append, List.length_map, List.length_range] at j'
  exact ⟨δ', cs', j', k1⟩
theorem frz_slot {i : Nat} {r : MS} {δ : DL} {ah ah2 : AH} {d d2 : D} (h : δ[i]? = some (some d)) (hf : freeze (d, ah) = some (d2, ah2)) : sFrz i r δ ah = r (δ.set i (some d2)) ah2 := by
  unfold sFrz
  rw [h]
  simp only [hf, Option.bind_some]
theorem freeze_end (ah : AH) (l : List D) : freeze (.ptr ah.length, ah ++ [.lst l]) = some (.lst l, ah ++ [.gone]) := by
  unfold freeze
  simp
theorem sg_o (b : Bool) : decide ((⟨#[sg b]⟩ : Str) = "o") = b := by cases b <;> rfl
theorem fB_row {b : Box} {y : Nat} (hy : y < b.2.1) : ((List.range b.2.1).map fun y => D.str (rowS b.1 fun x => b.2.2 x y))[y]? = some (.str (rowS b.1 fun x => b.2.2 x y)) := by simp [hy]
theorem eq_str {a b : ME} {δ : DL} {ah ah1 ah2 : AH} {x y : Str} (h1 : a δ ah = some (.str x, ah1)) (h2 : b δ ah1 = some (.str y, ah2)) : eBin gEq a b δ ah = some (.bl (decide (x = y)), ah2) := bin_ev h1 h2 rfl
theorem ix_o {m : ME} {δ : DL} {ah ah1 : AH} {b : Bool} (h : m δ ah = some (.bl b, ah1)) : eIx (eC (.str ".o")) (e1 gInt m) δ ah = some (.str ⟨#[sg b]⟩, ah1) := by
  have e : e1 gInt m δ ah = some (.int ((if b = true then 1 else 0 : Nat) : Int), ah1) := e1_ev h (by cases b <;> rfl)
  exact ix_str (z := ".o") rfl e (by decide) (by cases b <;> rfl)
theorem tup_ev {ma : MA} {δ : DL} {ah ah1 : AH} {l : List D} (h : ma δ ah = some (l, ah1)) (hl : l.length ≤ 10000) : eTup ma δ ah = some (.tup l, ah1) := by
  simp only [eTup, h, Option.bind_some]
  rw [if_pos hl]
theorem cons_ev {a : ME} {r : MA} {δ : DL} {ah ah1 ah2 : AH} {d : D} {l : List D} (h : a δ ah = some (d, ah1)) (h2 : r δ ah1 = some (l, ah2)) : aCons a r δ ah = some (d :: l, ah2) := by
  simp only [aCons, h, h2, Option.bind_some, Option.map_some]
theorem nil_ev (δ : DL) (ah : AH) : aNil δ ah = some ([], ah) := rfl
theorem ev_spun {b : Box} (hs : Small b) (m : Bool) {q : Nat} (hq : q ≤ 3) {ah : AH} (hb : Bd ah) : f__law_spun [fB b, .str (tz m q)] ah = some (fB (turnB m q b), ah) := by
  obtain ⟨s1, s2, s3, s4⟩ := id hs
  -- the first loop
  obtain ⟨δ', hj, hl⟩ := ext_loop (g := tgN 3) (k := 2) (e := eFrz (fComp (iRng1M (e1 gLen (eIx (eVar 0) (eVar 3)))) (tgN 7) (tOf (eBin gEq (eIx (eIx (eVar 0) (eVar 3)) (eVar 7)) (eC (.str "o")))) (eTup (aCons (eVar 7) (aCons (eVar 3) aNil))) [7])) (i := fun y : Nat => D.int (y : Nat))
    (F := fun y => ((List.range b.1).filter fun x => b.2.2 x y).map fun x => pD (((x : Nat) : Int), ((y : Nat) : Int))) (ah := ah) (J := fun δ => δ.length = 8 ∧ δ[0]? = some (some (fB b)) ∧ δ[1]? = some (some (.str (tz m q))) ∧ δ[2]? = some (some (.ptr ah.length))) (B := 6) (l := List.range b.2.1) (acc := [])
    (δ := [some (fB b), some (.str (tz m q)), some (.ptr ah.length), none, none, none, none, none]) ⟨rfl, rfl, rfl, rfl⟩ (fun y hy => by
      rw [List.length_map]
      refine Nat.le_trans (List.length_filter_le _ _) ?_
      rw [List.length_range]
      exact s2) (by simp; omega) fun y hy δ ⟨j1, j2, j3, j4⟩ => by
      have hy' := List.mem_range.mp hy
      refine ⟨_, rfl, ⟨by simpa using j1, by rw [get_set_ne (by decide)]; exact j2, by rw [get_set_ne (by decide)]; exact j3, by rw [get_set_ne (by decide)]; exact j4⟩, by rw [get_set_ne (by decide)]; exact j4, fun ah1 => ?_⟩
      have v0 : eVar 0 (δ.set 3 (some (.int (y : Nat)))) ah1 = some (fB b, ah1) := var_ev (by rw [get_set_ne (by decide)]; exact j2)
      have v3 : eVar 3 (δ.set 3 (some (.int (y : Nat)))) ah1 = some (.int (y : Nat), ah1) := var_ev (get_set (by omega))
      have ln := len_str (m := eIx (eVar 0) (eVar 3)) (ix_tup v0 v3 (fB_row hy')) (by rw [rowS_len]; omega)
      rw [rowS_len] at ln
      refine frz_ev ((comp_ev (rng1 ln (by omega)) (by simp; omega)).trans ?_)
      refine compGo_filter (i := fun x : Nat => D.int (x : Nat)) (f := fun x => pD (((x : Nat) : Int), ((y : Nat) : Int))) fun x hx => ?_
      have hx' := List.mem_range.mp hx
      have L : (wipeD (δ.set 3 (some (.int (y : Nat)))) [7]).length = 8 := by rw [wipe_len]; simpa using j1
      have v0' : eVar 0 ((wipeD (δ.set 3 (some (.int (y : Nat)))) [7]).set 7 (some (.int (x : Nat)))) ah1 = some (fB b, ah1) := var_ev (by rw [get_set_ne (by decide), wipe_get_ne (by decide), get_set_ne (by decide)]; exact j2)
      have v3' : eVar 3 ((wipeD (δ.set 3 (some (.int (y : Nat)))) [7]).set 7 (some (.int (x : Nat)))) ah1 = some (.int (y : Nat), ah1) := var_ev (by rw [get_set_ne (by decide), wipe_get_ne (by decide)]; exact get_set (by omega))
      have v7' : eVar 7 ((wipeD (δ.set 3 (some (.int (y : Nat)))) [7]).set 7 (some (.int (x : Nat)))) ah1 = some (.int (x : Nat), ah1) := var_ev (get_set (by rw [L]; decide))
      have t1 := tof_ev (eq_str (b := eC (.str "o")) (ix_str (ix_tup v0' v3' (fB_row hy')) v7' (by rw [rowS_len]; omega) (rowS_get hx')) rfl)
      rw [sg_o] at t1
      exact ⟨_, rfl, t1, fun _ => tup_ev (cons_ev v7' (cons_ev v3' rfl)) (by simp)⟩
  obtain ⟨j1, j2, j3, j4⟩ := hj
  have ecs : ((List.range b.2.1).flatMap fun y => ((List.range b.1).filter fun x => b.2.2 x y).map fun x => pD (((x : Nat) : Int), ((y : Nat) : Int))) = (cells0 b).map pD := by
    unfold cells0
    rw [List.map_flatMap]
    congr 1
    funext y
    rw [List.map_map]
    rfl
  rw [List.nil_append, ecs] at hl
  -- wide, high
  have L1 : (δ'.set 2 (some (.lst ((cells0 b).map pD)))).length = 8 := by simpa using j1
  have jst0 : Jst (.str (tz m q)) (((δ'.set 2 (some (.lst ((cells0 b).map pD)))).set 4 (some (.int b.1))).set 5 (some (.int b.2.1))) b (cells0 b) := by
    refine ⟨by simpa using j1, ?_, ?_, ?_, ?_, cells0_rep b, cells0_len hs, hs⟩
    · rw [get_set_ne (by decide), get_set_ne (by decide), get_set_ne (by decide)]; exact j3
    · rw [get_set_ne (by decide), get_set_ne (by decide)]; exact get_set (by omega)
    · rw [get_set_ne (by decide)]; exact get_set (by rw [L1]; decide)
    · exact get_set (by simp [j1])
  have wh : sAsg (tgT (tgCons (tgN 4) (tgCons (tgN 5) tgNil))) (eTup (aCons (e1 gLen (eIx (eVar 0) (eC (.int 0)))) (aCons (e1 gLen (eVar 0)) aNil))) (δ'.set 2 (some (.lst ((cells0 b).map pD)))) (ah ++ [.gone]) = some (.nx (((δ'.set 2 (some (.lst ((cells0 b).map pD)))).set 4 (some (.int b.1))).set 5 (some (.int b.2.1))), ah ++ [.gone]) := by
    have v0 : eVar 0 (δ'.set 2 (some (.lst ((cells0 b).map pD)))) (ah ++ [.gone]) = some (fB b, ah ++ [.gone]) := var_ev (by rw [get_set_ne (by decide)]; exact j2)
    have a1 := len_str (m := eIx (eVar 0) (eC (.int 0))) (ix_tup (i := 0) v0 rfl (fB_row (by omega))) (by rw [rowS_len]; omega)
    rw [rowS_len] at a1
    have a2 := len_tup v0
    rw [List.length_map, List.length_range] at a2
    have tt := tup_ev (cons_ev a1 (cons_ev a2 (nil_ev _ _))) (by simp)
    unfold sAsg
    rw [tt]
    rfl
  -- exchanged
  have ex : ∃ δ2 cs2, Jst (.str (tz m q)) δ2 (if m = true then (b.1, b.2.1, mirC b.1 b.2.2) else b) cs2 ∧ sIf (tOf (eBin gEq (eIx (eVar 1) (eC (.int 0))) (eC (.str "m")))) (sAsg (tgN 2) (eFrz (fComp (iAny (eVar 2)) (tgT (tgCons (tgN 7) (tgCons (tgN 3) tgNil))) tYesM (eTup (aCons (eBin gSub (eBin gSub (eVar 4) (eC (.int 1))) (eVar 7)) (aCons (eVar 3) aNil))) [7, 3]))) sNil (((δ'.set 2 (some (.lst ((cells0 b).map pD)))).set 4 (some (.int b.1))).set 5 (some (.int b.2.1))) (ah ++ [.gone]) = some (.nx δ2, ah ++ [.gone]) := by
    generalize (((δ'.set 2 (some (.lst ((cells0 b).map pD)))).set 4 (some (.int b.1))).set 5 (some (.int b.2.1))) = δ3 at jst0
    have tst := tof_ev (eq_str (b := eC (.str "m")) (ix_str (z := tz m q) (i := 0) (b := eC (.int 0)) (var_ev (ah := ah ++ [.gone]) jst0.t) rfl (by show (2 : Nat) ≤ 100000; decide) rfl) rfl)
    cases m with
    | false =>
      exact ⟨δ3, _, jst0, (if_f tst).trans rfl⟩
    | true =>
      have c1 := pt_comp (cs := cells0 b) (F := fun p => ((b.1 : Int) - 1 - p.1, p.2)) (δ := δ3) (ah := ah ++ [.gone]) (a := eBin gSub (eBin gSub (eVar 4) (eC (.int 1))) (eVar 7)) (b := eVar 3) (by have := jst0.sz; omega) jst0.ls jst0.len fun p δ1 e => by
        subst e
        have l8 : (wipeD δ3 [7, 3]).length = 8 := by rw [wipe_len]; exact jst0.len
        refine ⟨sub_ev (sub_ev (var_ev (d := .int b.1) ?_) rfl) (var_ev ?_), var_ev ?_⟩
        · rw [get_set_ne (by decide), get_set_ne (by decide), wipe_get_ne (by decide)]
          exact jst0.w
        · rw [get_set_ne (by decide)]
          exact get_set (by rw [l8]; decide)
        · exact get_set (by simp [l8])
      have jm : Jst (.str (tz true q)) (δ3.set 2 (some (.lst (((cells0 b).map fun p => ((b.1 : Int) - 1 - p.1, p.2)).map pD)))) (b.1, b.2.1, mirC b.1 b.2.2) ((cells0 b).map fun p => ((b.1 : Int) - 1 - p.1, p.2)) := by
        refine ⟨?_, ?_, ?_, ?_, ?_, jst0.rep.mir, by rw [List.length_map]; exact jst0.sz, hs⟩
        · simpa using jst0.len
        · rw [get_set_ne (by decide)]; exact jst0.t
        · exact get_set (by rw [jst0.len]; decide)
        · rw [get_set_ne (by decide)]; exact jst0.w
        · rw [get_set_ne (by decide)]; exact jst0.h
      exact ⟨_, _, jm, (if_t tst).trans (asg_ev c1)⟩
  obtain ⟨δ2, cs2, jst2, ex⟩ := ex
  obtain ⟨δ4, cs4, jst4, lp⟩ := spun_loop (ah := ah ++ [.gone]) (q := q) jst2
  have hq1 : eIx (eVar 1) (eC (.int 1)) δ2 (ah ++ [.gone]) = some (.str ⟨#[48 + q]⟩, ah ++ [.gone]) := ix_str (z := tz m q) (i := 1) (var_ev jst2.t) rfl (by show (2 : Nat) ≤ 100000; decide) rfl
  have rq : iRng1M (eSIndex (eC (.str "0123")) (eIx (eVar 1) (eC (.int 1)))) δ2 (ah ++ [.gone]) = some ((List.range q).map fun i => .int (i : Nat), ah ++ [.gone]) := rng1 (bin_ev rfl hq1 (idx0123 hq _)) (by omega)
  -- the face
  have fin : sRet (e1 gTuple (eFrz (fComp (iRng1M (eVar 5)) (tgN 3) tYesM (eJoin (eC (.str "")) (eFrz (fComp (iRng1M (eVar 4)) (tgN 7) tYesM (eIx (eC (.str ".o")) (e1 gInt (eBin gIn (eTup (aCons (eVar 7) (aCons (eVar 3) aNil))) (eVar 2)))) [7]))) [3]))) δ4 (ah ++ [.gone]) = some (.rt (fB (turnB m q b)), ah ++ [.gone]) := by
    have hb4 : stepK q (if m = true then (b.1, b.2.1, mirC b.1 b.2.2) else b) = turnB m q b := rfl
    rw [hb4] at jst4
    generalize turnB m q b = b4 at jst4
    obtain ⟨q1, q2, q3, q4⟩ := jst4.sm
    have l8 : (wipeD δ4 [3]).length = 8 := by rw [wipe_len]; exact jst4.len
    refine ret_ev (e1_ev (frz_ev ((comp_ev (rng1 (var_ev jst4.h) (by omega)) (by simp; omega)).trans (compGo_map (i := fun y : Nat => D.int (y : Nat)) (f := fun y => D.str (rowS b4.1 fun x => b4.2.2 x y)) fun y hy => ?_))) (tup_lst _ _))
    have hy' := List.mem_range.mp hy
    refine ⟨_, rfl, rfl, (join_ev (f := fun x => sg (b4.2.2 x y)) (l := List.range b4.1) rfl (frz_ev ?_) (by simp; omega)).trans rfl⟩
    have l8' : (wipeD ((wipeD δ4 [3]).set 3 (some (.int (y : Nat)))) [7]).length = 8 := by rw [wipe_len]; simpa using l8
    refine (comp_ev (rng1 (n := b4.1) (var_ev (by rw [get_set_ne (by decide), wipe_get_ne (by decide)]; exact jst4.w)) (by omega)) (by simp; omega)).trans (compGo_map (i := fun x : Nat => D.int (x : Nat)) fun x hx => ?_)
    have hx' := List.mem_range.mp hx
    refine ⟨_, rfl, rfl, ix_o ?_⟩
    have v7 : eVar 7 ((wipeD ((wipeD δ4 [3]).set 3 (some (.int (y : Nat)))) [7]).set 7 (some (.int (x : Nat)))) (ah ++ [.gone]) = some (.int (x : Nat), ah ++ [.gone]) := var_ev (get_set (by rw [l8']; decide))
    have v3 : eVar 3 ((wipeD ((wipeD δ4 [3]).set 3 (some (.int (y : Nat)))) [7]).set 7 (some (.int (x : Nat)))) (ah ++ [.gone]) = some (.int (y : Nat), ah ++ [.gone]) := var_ev (by rw [get_set_ne (by decide), wipe_get_ne (by decide)]; exact get_set (by rw [l8]; decide))
    have v2 : eVar 2 ((wipeD ((wipeD δ4 [3]).set 3 (some (.int (y : Nat)))) [7]).set 7 (some (.int (x : Nat)))) (ah ++ [.gone]) = some (.lst (cs4.map pD), ah ++ [.gone]) := var_ev (by rw [get_set_ne (by decide), wipe_get_ne (by decide), get_set_ne (by decide), wipe_get_ne (by decide)]; exact jst4.ls)
    have gi := gIn_pb (n := 1) (ah := ah ++ [.gone]) (x := pD (((x : Nat) : Int), ((y : Nat) : Int))) (l := cs4.map pD) (by decide) rfl (pD_all cs4) (fun z e => by cases e) (fun l e => by cases e)
    rw [jst4.rep.mem hx' hy'] at gi
    exact bin_ev (tup_ev (cons_ev v7 (cons_ev v3 rfl)) (by simp)) v2 gi
  have len_f : e1 gLen (eVar 0) [some (fB b), some (.str (tz m q)), some (.ptr ah.length), none, none, none, none, none] (ah ++ [.lst []]) = some (.int b.2.1, ah ++ [.lst []]) := by
    have := len_tup (m := eVar 0) (δ := [some (fB b), some (.str (tz m q)), some (.ptr ah.length), none, none, none, none, none]) (ah := ah ++ [.lst []]) rfl
    rw [List.length_map, List.length_range] at this
    exact this
  have whole : s__law_spun [some (fB b), some (.str (tz m q)), none, none, none, none, none, none] ah = some (.rt (fB (turnB m q b)), ah ++ [.gone]) := by
    unfold s__law_spun
    refine (seq_nx (asg_ev (own_ev (l := []) (ah1 := ah) rfl))).trans ?_
    refine (seq_nx ((for_ev (rng1 len_f (by omega))).trans hl)).trans ?_
    refine (frz_slot j4 (freeze_end _ _)).trans ?_
    exact (seq_nx wh).trans ((seq_nx ex).trans ((seq_nx ((for_ev rq).trans lp)).trans fin))
  exact (fn_rt rfl whole).trans (congrArg some (trim_app (d := fB (turnB m q b)) (fD_bd _ _ _ _) hb))
def xorB (b : Box) (e : Cell) : Box := (b.1, b.2.1, xorC b.2.2 e)
theorem str_ne (a b : Bool) : (!decide ((⟨#[sg a]⟩ : Str) = ⟨#[sg b]⟩)) = (a != b) := by cases a <;> cases b <;> rfl
theorem ne_str {a b : ME} {δ : DL} {ah ah1 ah2 : AH} {x y : Str} (h1 : a δ ah = some (.str x, ah1)) (h2 : b δ ah1 = some (.str y, ah2)) : eBin gNe a b δ ah = some (.bl (!decide (x = y)), ah2) := bin_ev h1 h2 rfl
theorem ev_over {w h : Nat} {c e : Cell} (h2 : w ≤ 6) (h4 : h ≤ 6) {ah : AH} (hb : Bd ah) : f__law_over [fD w h c, fD w h e] ah = some (fD w h (xorC c e), ah) := by
  have row : ∀ (c : Cell) (y : Nat), y < h → ((List.range h).map fun y => D.str (rowS w fun x => c x y))[y]? = some (.str (rowS w fun x => c x y)) := fun c y hy => by simp [hy]
  obtain ⟨δ', hj, hl⟩ := app_loop (g := tgN 3) (k := 2) (e := eJoin (eC (.str "")) (eFrz (fComp (iRng1M (e1 gLen (eIx (eVar 0) (eVar 3)))) (tgN 4) tYesM (eIx (eC (.str ".o")) (e1 gInt (eBin gNe (eIx (eIx (eVar 0) (eVar 3)) (eVar 4)) (eIx (eIx (eVar 1) (eVar 3)) (eVar 4))))) [4]))) (i := fun y : Nat => D.int (y : Nat)) (F := fun y => .str (rowS w fun x => xorC c e x y)) (ah := ah)
    (J := fun δ => δ.length = 5 ∧ δ[0]? = some (some (fD w h c)) ∧ δ[1]? = some (some (fD w h e)) ∧ δ[2]? = some (some (.ptr ah.length))) (l := List.range h) (acc := []) (δ := [some (fD w h c), some (fD w h e), some (.ptr ah.length), none, none]) ⟨rfl, rfl, rfl, rfl⟩ (by simp; omega) fun y hy δ ⟨j1, j2, j3, j4⟩ => by
      have hy' := List.mem_range.mp hy
      refine ⟨_, rfl, ⟨by simpa using j1, by rw [get_set_ne (by decide)]; exact j2, by rw [get_set_ne (by decide)]; exact j3, by rw [get_set_ne (by decide)]; exact j4⟩, by rw [get_set_ne (by decide)]; exact j4, fun ah1 => ?_⟩
      have v0 : eVar 0 (δ.set 3 (some (.int (y : Nat)))) ah1 = some (fD w h c, ah1) := var_ev (by rw [get_set_ne (by decide)]; exact j2)
      have v3 : eVar 3 (δ.set 3 (some (.int (y : Nat)))) ah1 = some (.int (y : Nat), ah1) := var_ev (get_set (by omega))
      have ln := len_str (m := eIx (eVar 0) (eVar 3)) (ix_tup v0 v3 (row c y hy')) (by rw [rowS_len]; omega)
      rw [rowS_len] at ln
      refine (join_ev (f := fun x => sg (xorC c e x y)) (l := List.range w) rfl (frz_ev ((comp_ev (rng1 ln (by omega)) (by simp; omega)).trans (compGo_map (i := fun x : Nat => D.int (x : Nat)) fun x hx => ?_))) (by simp; omega)).trans rfl
      have hx' := List.mem_range.mp hx
      have L : (wipeD (δ.set 3 (some (.int (y : Nat)))) [4]).length = 5 := by rw [wipe_len]; simpa using j1
      have w0 : eVar 0 ((wipeD (δ.set 3 (some (.int (y : Nat)))) [4]).set 4 (some (.int (x : Nat)))) ah1 = some (fD w h c, ah1) := var_ev (by rw [get_set_ne (by decide), wipe_get_ne (by decide), get_set_ne (by decide)]; exact j2)
      have w1 : eVar 1 ((wipeD (δ.set 3 (some (.int (y : Nat)))) [4]).set 4 (some (.int (x : Nat)))) ah1 = some (fD w h e, ah1) := var_ev (by rw [get_set_ne (by decide), wipe_get_ne (by decide), get_set_ne (by decide)]; exact j3)
      have w3 : eVar 3 ((wipeD (δ.set 3 (some (.int (y : Nat)))) [4]).set 4 (some (.int (x : Nat)))) ah1 = some (.int (y : Nat), ah1) := var_ev (by rw [get_set_ne (by decide), wipe_get_ne (by decide)]; exact get_set (by omega))
      have w4 : eVar 4 ((wipeD (δ.set 3 (some (.int (y : Nat)))) [4]).set 4 (some (.int (x : Nat)))) ah1 = some (.int (x : Nat), ah1) := var_ev (get_set (by rw [L]; decide))
      have ne := ne_str (ix_str (ix_tup w0 w3 (row c y hy')) w4 (by rw [rowS_len]; omega) (rowS_get hx')) (ix_str (ix_tup w1 w3 (row e y hy')) w4 (by rw [rowS_len]; omega) (rowS_get hx'))
      rw [str_ne] at ne
      exact ⟨_, rfl, rfl, ix_o ne⟩
  have len_f : e1 gLen (eVar 0) [some (fD w h c), some (fD w h e), some (.ptr ah.length), none, none] (ah ++ [.lst []]) = some (.int h, ah ++ [.lst []]) := by
    have := len_tup (m := eVar 0) (δ := [some (fD w h c), some (fD w h e), some (.ptr ah.length), none, none]) (ah := ah ++ [.lst []]) rfl
    rw [List.length_map, List.length_range] at this
    exact this
  have whole : s__law_over [some (fD w h c), some (fD w h e), none, none, none] ah = some (.rt (fD w h (xorC c e)), ah ++ [.lst ((List.range h).map fun y => .str (rowS w fun x => xorC c e x y))]) := by
    unfold s__law_over
    refine (seq_nx (asg_ev (own_ev (l := []) (ah1 := ah) rfl))).trans ?_
    exact (seq_nx ((for_ev (rng1 len_f (by omega))).trans hl)).trans (ret_ev (tup_ptr hj.2.2.2))
  exact (fn_rt rfl whole).trans (congrArg some (trim_app (d := fD w h (xorC c e)) (fD_bd _ _ _ _) hb))
theorem ev_exchanges (m : Bool) (q : Nat) (ah : AH) : f_exchanges [.str (tz m q)] ah = some (.bl m, ah) := by
  have hs : s_exchanges [some (.str (tz m q))] ah = some (.rt (.bl m), ah) := by
    have e := eq_str (b := eC (.str "m")) (ix_str (z := tz m q) (i := 0) (m := eVar 0) (b := eC (.int 0)) (δ := [some (.str (tz m q))]) (ah := ah) rfl rfl (by show (2 : Nat) ≤ 100000; decide) rfl) rfl
    unfold s_exchanges
    refine (ret_ev e).trans ?_
    cases m <;> rfl
  exact (fn_rt rfl hs).trans (by rw [trim_self])
theorem ev_quarters (m : Bool) {q : Nat} (hq : q ≤ 3) (ah : AH) : f_quarters [.str (tz m q)] ah = some (.int (q : Nat), ah) := by
  have e : eTIndex l_TURNINGS (eVar 0) [some (.str (tz m q))] ah = some (.int ((if m = true then 4 + q else q : Nat) : Int), ah) := by
    have i : idxS (tz m q) l_TURNINGS = some (if m = true then 4 + q else q) := by
      cases m <;> (match q, hq with | 0, _ => decide +kernel | 1, _ => decide +kernel | 2, _ => decide +kernel | 3, _ => decide +kernel)
    show (Option.map _ (idxS (tz m q) l_TURNINGS)) = _
    rw [i]
    rfl
  have hs : s_quarters [some (.str (tz m q))] ah = some (.rt (.int (q : Nat)), ah) := by
    unfold s_quarters
    refine ret_ev (bin_ev e rfl ?_)
    show gMod ah _ (.int 4) = _
    simp only [gIc]
    rw [if_pos (by decide)]
    congr 2
    cases m <;> (simp; omega)
  exact (fn_rt rfl hs).trans (by rw [trim_self])
theorem len_dic {m : ME} {δ : DL} {ah ah1 : AH} {l : List (Key × D)} (h : m δ ah = some (.dic l, ah1)) : e1 gLen m δ ah = some (.int l.length, ah1) := e1_ev h rfl
theorem nil_t {t : MT} {a : MS} {δ : DL} {ah : AH} (h : t δ ah = some (false, ah)) : sIf t a sNil δ ah = some (.nx δ, ah) := (if_f h).trans rfl
end K19
namespace MM
open PySem L2
mutual
theorem D.bd_mono {n m : Nat} (h : n ≤ m) : ∀ d : D, D.bd n d = true → D.bd m d = true
  | .non, _ => by simp [D.bd]
  | .bl _, _ => by simp [D.bd]
  | .int _, _ => by simp [D.bd]
  | .str _, _ => by simp [D.bd]
  | .tup l, e => by rw [D.bd] at e ⊢; exact D.bds_mono h l e
  | .lst l, e => by rw [D.bd] at e ⊢; exact D.bds_mono h l e
  | .scr l, e => by rw [D.bd] at e ⊢; exact D.bds_mono h l e
  | .dic l, e => by rw [D.bd] at e ⊢; exact D.bdK_mono h l e
  | .dct l, e => by rw [D.bd] at e ⊢; exact D.bdT_mono h l e
  | .ins _ f, e => by rw [D.bd] at e ⊢; exact D.bdF_mono h f e
  | .ptr k, e => by
    rw [D.bd] at e ⊢
    exact decide_eq_true (Nat.lt_of_lt_of_le (of_decide_eq_true e) h)
theorem D.bds_mono {n m : Nat} (h : n ≤ m) : ∀ l : List D, D.bds n l = true → D.bds m l = true
  | [], _ => by simp [D.bds]
  | d :: r, e => by
    rw [D.bds, Bool.and_eq_true] at e ⊢
    exact ⟨D.bd_mono h d e.1, D.bds_mono h r e.2⟩
theorem D.bdK_mono {n m : Nat} (h : n ≤ m) : ∀ l : List (Key × D), D.bdK n l = true → D.bdK m l = true
  | [], _ => by simp [D.bdK]
  | (_, d) :: r, e => by
    rw [D.bdK, Bool.and_eq_true] at e ⊢
    exact ⟨D.bd_mono h d e.1, D.bdK_mono h r e.2⟩
theorem D.bdT_mono {n m : Nat} (h : n ≤ m) : ∀ l : List (List Key × D), D.bdT n l = true → D.bdT m l = true
  | [], _ => by simp [D.bdT]
  | (_, d) :: r, e => by
    rw [D.bdT, Bool.and_eq_true] at e ⊢
    exact ⟨D.bd_mono h d e.1, D.bdT_mono h r e.2⟩
theorem D.bdF_mono {n m : Nat} (h : n ≤ m) : ∀ l : List (Str × D), D.bdF n l = true → D.bdF m l = true
  | [], _ => by simp [D.bdF]
  | (_, d) :: r, e => by
    rw [D.bdF, Bool.and_eq_true] at e ⊢
    exact ⟨D.bd_mono h d e.1, D.bdF_mono h r e.2⟩
end
theorem AO.bd_mono {n m : Nat} (h : n ≤ m) : ∀ o : AO, AO.bd n o = true → AO.bd m o = true
  | .gone, _ => rfl
  | .lst l, e => D.bds_mono h l e
  | .dic l, e => D.bdK_mono h l e
  | .dct l, e => D.bdT_mono h l e
  | .ins _ f, e => D.bdF_mono h f e
theorem Bd.push {ah : AH} {o : AO} (h : Bd ah) (ho : AO.bd (ah.length + 1) o = true) : Bd (ah ++ [o]) := fun u hu => by
  rw [List.length_append, List.length_singleton]
  rcases List.mem_append.mp hu with hu | hu
  · exact AO.bd_mono (Nat.le_succ _) u (h u hu)
  · rw [List.mem_singleton.mp hu]
    exact ho
theorem Bd.set {ah : AH} {o : AO} {n : Nat} (h : Bd ah) (ho : AO.bd ah.length o = true) : Bd (ah.set n o) := fun u hu => by
  rw [List.length_set]
  rcases List.mem_or_eq_of_mem_set hu with hu | hu
  · exact h u hu
  · rw [hu]
    exact ho
end MM
namespace K19
open PySem L2 MM
theorem sort_mem {M : List Str} {n : Str} : n ∈ sortBy leS M ↔ n ∈ M := (sortBy_perm (le := leS) M).mem_iff
def put1 (st : Str → Cell) (a : Str) (c : Cell) : Str → Cell := fun n => if n = a then c else st n
theorem turn_box {w h q : Nat} {c : Cell} (hq : q ≤ 3) (e : w = h ∨ q = 2) : fB (turnB false q (w, h, c)) = fD w h (turnB false q (w, h, c)).2.2 := by
  rcases e with rfl | rfl
  · match q, hq with
    | 0, _ => rfl
    | 1, _ => rfl
    | 2, _ => rfl
    | 3, _ => rfl
  · rfl
theorem ix_at {m b : ME} {δ : DL} {ah ah1 : AH} {l : List D} {i : Nat} {d : D} (h : m δ ah = some (.tup l, ah1)) (hb : b = eC (.int (i : Nat))) (e : l[i]? = some d) : eIx m b δ ah = some (d, ah1) := by
  subst hb
  exact ix_tup h rfl e
theorem lit_eq {m : ME} {δ : DL} {ah ah1 : AH} {x y : Str} {b : Bool} (h : m δ ah = some (.str x, ah1)) (e : decide (x = y) = b) : tOf (eBin gEq m (eC (.str y))) δ ah = some (b, ah1) := by
  subst e
  exact tof_ev (eq_str h rfl)
theorem lit_eqE {m : ME} {δ : DL} {ah ah1 : AH} {x y : Str} {b : Bool} (h : m δ ah = some (.str x, ah1)) (e : decide (x = y) = b) : eBin gEq m (eC (.str y)) δ ah = some (.bl b, ah1) := by
  subst e
  exact eq_str h rfl
theorem lst_ev {ma : MA} {δ : DL} {ah ah1 : AH} {l : List D} (h : ma δ ah = some (l, ah1)) (hl : l.length ≤ 10000) : fLst ma δ ah = some (l, ah1) := by
  simp only [fLst, h, Option.bind_some]
  rw [if_pos hl]
theorem seq_skip {c : MT} {a r : MS} {δ : DL} {ah ah1 : AH} (h : c δ ah = some (false, ah1)) : sSeq (sIf c a sNil) r δ ah = r δ ah1 := seq_nx ((if_f h).trans rfl)
theorem seq_take {c : MT} {a r : MS} {δ : DL} {ah ah1 ah2 : AH} {d : D} (h : c δ ah = some (true, ah1)) (hr : a δ ah1 = some (.rt d, ah2)) : sSeq (sIf c a sNil) r δ ah = some (.rt d, ah2) := seq_rt ((if_t h).trans hr)
theorem meth_ev {c m : Str} {mf : MF} {mo : ME} {ma : MA} {δ : DL} {ah ah1 ah2 : AH} {d : D} {fs : List (Str × D)} {ds : List D} (h : mo δ ah = some (d, ah1)) (hi : asI ah1 d = some (c, fs)) (hf : fs.lookup m = none) (ha : ma δ ah1 = some (ds, ah2)) : eMeth [(c, mf)] m mo ma δ ah = mf (d :: ds) ah2 := by
  unfold eMeth
  rw [h, Option.bind_some, hi, Option.bind_some]
  have : ([(c, mf)] : List (Str × MF)).lookup c = some mf := by simp
  rw [this, Option.bind_some]
  simp only [hf, ha, Option.bind_some]
theorem fld_ev {c f : Str} {mo : ME} {δ : DL} {ah ah1 : AH} {d e : D} {fs : List (Str × D)} (h : mo δ ah = some (d, ah1)) (hi : asI ah1 d = some (c, fs)) (hf : fs.lookup f = some e) : eFld [c] f mo δ ah = some (e, ah1) := by
  unfold eFld
  rw [h, Option.bind_some, hi, Option.bind_some]
  simp only [List.mem_singleton, if_true, hf, Option.map_some]
section
variable {M : List Str} {w h : Nat} {st : Str → Cell}
end
theorem sort_sort (M : List Str) : sortBy leS (sortBy leS M) = sortBy leS M := (sortBy_uniq leS_tr leS_to leS_an (List.Perm.refl _) (sortBy_sorted leS_tr leS_to M)).symm
section
variable {M : List Str} {w h : Nat} {st : Str → Cell}
theorem freeze_endD (ah : AH) (l : List (Key × D)) : freeze (.ptr ah.length, ah ++ [.dic l]) = some (.dic l, ah ++ [.gone]) := by
  unfold freeze
  simp
end
section
variable {M : List Str} {w h : Nat}
theorem mid_get {α : Type} {l dn r : List α} {d : α} (e : [] ++ l = dn ++ d :: r) : l[dn.length]? = some d := by
  rw [List.nil_append] at e
  rw [e, List.getElem?_append_right (Nat.le_refl _), Nat.sub_self]
  rfl
theorem take_succ {α : Type} {l : List α} {k : Nat} {a : α} (e : l[k]? = some a) : l.take (k + 1) = l.take k ++ [a] := by
  rw [List.take_add_one, e]
  rfl
theorem ptr_app {k : Nat} {e : ME} {δ : DL} {ah : AH} {acc : List D} {d : D} (hk : δ[k]? = some (some (.ptr ah.length))) (he : e δ (ah ++ [.lst acc]) = some (d, ah ++ [.lst acc])) (hl : acc.length < 100000) : sExpr (eMut gAppend (eVar k) (aCons e aNil)) δ (ah ++ [.lst acc]) = some (.nx δ, ah ++ [.lst (acc ++ [d])]) := exp_ev (app_ev hk he hl)
theorem fr_ret {k : Nat} {δ : DL} {ah : AH} {l : List D} (hk : δ[k]? = some (some (.ptr ah.length))) : sRet (eFreeze (eVar k)) δ (ah ++ [.lst l]) = some (.rt (.lst l), ah ++ [.gone]) := by
  refine ret_ev ?_
  unfold eFreeze
  rw [var_ev hk, Option.bind_some, freeze_end]
theorem lst_push {ah : AH} {F : (Str → Cell) → D} (hF : ∀ n st, D.bd n (F st) = true) (hb : Bd ah) (l : List (Str → Cell)) : Bd (ah ++ [.lst (l.map F)]) := hb.push (by
  show D.bds _ (l.map F) = true
  induction l with
  | nil => rfl
  | cons a r ih =>
    rw [List.map_cons, D.bds, hF, ih]
    rfl)
theorem lst_bd {F : (Str → Cell) → D} (hF : ∀ n st, D.bd n (F st) = true) (n : Nat) (l : List (Str → Cell)) : D.bd n (.lst (l.map F)) = true := by
  rw [D.bd]
  induction l with
  | nil => rfl
  | cons a r ih =>
    rw [List.map_cons, D.bds, hF, ih]
    rfl
theorem enumD_get : ∀ {l : List D} {n k : Nat} {d : D}, (enumD n l)[k]? = some d → ∃ x, l[k]? = some x ∧ d = .tup [.int ((n + k : Nat) : Int), x] := fun h => enumD_at h
end
theorem zip_range (a b : Nat) (f g : Nat → D) : zipD ((List.range a).map f) ((List.range b).map g) = (List.range (min a b)).map fun k => .tup [f k, g k] := by
  apply List.ext_getElem?
  intro i
  cases e : (zipD ((List.range a).map f) ((List.range b).map g))[i]? with
  | none =>
    have := List.getElem?_eq_none_iff.mp e
    rw [zipD_len, List.length_map, List.length_map, List.length_range, List.length_range] at this
    rw [List.getElem?_eq_none (by simp; omega)]
  | some d =>
    have hi := (List.getElem?_eq_some_iff.mp e).1
    rw [zipD_len, List.length_map, List.length_map, List.length_range, List.length_range] at hi
    obtain ⟨x, y, h1, h2, rfl⟩ := zipD_at e
    rw [List.getElem?_map, List.getElem?_range (by omega)] at h1 h2
    rw [List.getElem?_map, List.getElem?_range hi]
    simp only [Option.map_some, Option.some.injEq] at h1 h2
    rw [Option.map_some, h1, h2]
theorem enum_range (n : Nat) (f : Nat → D) : enumD 0 ((List.range n).map f) = (List.range n).map fun k => .tup [.int (k : Nat), f k] := by
  apply List.ext_getElem?
  intro i
  cases e : (enumD 0 ((List.range n).map f))[i]? with
  | none =>
    have := List.getElem?_eq_none_iff.mp e
    rw [enumD_len, List.length_map, List.length_range] at this
    rw [List.getElem?_eq_none (by simp; omega)]
  | some d =>
    have hi := (List.getElem?_eq_some_iff.mp e).1
    rw [enumD_len, List.length_map, List.length_range] at hi
    obtain ⟨x, h1, rfl⟩ := enumD_at e
    rw [List.getElem?_map, List.getElem?_range hi] at h1
    simp only [Option.map_some, Option.some.injEq] at h1
    rw [List.getElem?_map, List.getElem?_range hi, Option.map_some, h1, Nat.zero_add]
section
variable {M : List Str} {w h : Nat}
theorem sg_ok (b : Bool) : sg b < 0x110000 := by cases b <;> decide
theorem rowS_ok (w : Nat) (r : Nat → Bool) : PyData.strOk (rowS w r) = true := by
  unfold PyData.strOk
  rw [Array.all_eq_true']
  intro x hx
  have : x ∈ (rowS w r).cps.toList := by simpa using hx
  rw [rowS_cps] at this
  obtain ⟨k, _, rfl⟩ := List.mem_map.mp this
  exact decide_eq_true (sg_ok _)
theorem fD_pb (w h : Nat) (c : Cell) : pb 1 (fD w h c) = true := by
  show ((List.range h).map fun y => D.str (rowS w fun x => c x y)).all (pb 0) = true
  rw [List.all_map, List.all_eq_true]
  intro y _
  exact rowS_ok _ _
theorem ne_fD {a b : ME} {δ : DL} {ah ah1 ah2 : AH} {c e : Cell} (h1 : a δ ah = some (fD w h c, ah1)) (h2 : b δ ah1 = some (fD w h e, ah2)) : eBin gNe a b δ ah = some (.bl (!decide (fD w h c = fD w h e)), ah2) := by
  refine bin_ev h1 h2 ?_
  rw [gNe, dEq_pb (n := 1) (by decide) (fD_pb w h c) (fD_pb w h e)]
  rfl
end
theorem sl_take {m a : ME} {δ : DL} {ah ah1 ah2 : AH} {l : List D} {i : Nat} (h : m δ ah = some (.lst l, ah1)) (ha : a δ ah1 = some (.int (i : Nat), ah2)) : eSl m oNone (oSome a) δ ah = some (.lst (l.take i), ah2) := by
  have e1 : eSlice m oNone (oSome a) δ ah = none := by simp [eSlice, oNone, oSome, h, ha]
  have e2 : fSlice m oNone (oSome a) δ ah = some (l.take i, ah2) := by
    simp only [fSlice, oNone, oSome, h, ha, Option.bind_some, asR, Option.map_some]
    unfold cutL
    rw [HT.sIx_none, HT.sIx_nat, List.drop_zero, Nat.sub_zero]
    congr 2
    rw [← List.take_take, List.take_length]
  unfold eSl orE
  rw [e1]
  exact frz_ev e2
theorem sl_drop {m a : ME} {δ : DL} {ah ah1 ah2 : AH} {l : List D} {i : Nat} (h : m δ ah = some (.lst l, ah1)) (ha : a δ ah1 = some (.int (i : Nat), ah2)) : eSl m (oSome a) oNone δ ah = some (.lst (l.drop i), ah2) := by
  have e1 : eSlice m (oSome a) oNone δ ah = none := by simp [eSlice, oNone, oSome, h, ha]
  have e2 : fSlice m (oSome a) oNone δ ah = some (l.drop i, ah2) := by
    simp only [fSlice, oNone, oSome, h, ha, Option.bind_some, asR, Option.map_some]
    unfold cutL
    rw [HT.sIx_none, HT.sIx_nat]
    congr 2
    by_cases hi : i ≤ l.length
    · rw [Nat.min_eq_left hi, List.take_of_length_le (by rw [List.length_drop]; exact Nat.le_refl _)]
    · rw [Nat.min_eq_right (by omega), List.drop_length, List.drop_of_length_le (by omega), List.take_nil]
  unfold eSl orE
  rw [e1]
  exact frz_ev e2
theorem add_lst {a b : ME} {δ : DL} {ah ah1 ah2 : AH} {l m : List D} (h1 : a δ ah = some (.lst l, ah1)) (h2 : b δ ah1 = some (.lst m, ah2)) (hl : l.length + m.length ≤ 100000) : eBin gAdd a b δ ah = some (.lst (l ++ m), ah2) := by
  refine bin_ev h1 h2 ?_
  show (some l).bind (fun l => (some m).bind fun m => if l.length + m.length ≤ 100000 then some (D.lst (l ++ m)) else none) = _
  simp [hl]
theorem ix_lst {m b : ME} {δ : DL} {ah ah1 ah2 : AH} {l : List D} {i : Nat} {d : D} (h : m δ ah = some (.lst l, ah1)) (hb : b δ ah1 = some (.int (i : Nat), ah2)) (e : l[i]? = some d) : eIx m b δ ah = some (d, ah2) := by
  refine bin_ev h hb ?_
  have hi := (List.getElem?_eq_some_iff.mp e).1
  show atI l (i : Nat) = _
  simp only [atI, ixN]
  rw [if_pos (by omega), if_pos (by omega), Option.bind_some, Int.toNat_natCast, e]
section
variable {M : List Str} {w h : Nat}
theorem sg_inj {a b : Bool} (e : sg a = sg b) : a = b := by cases a <;> cases b <;> first | rfl | cases e
theorem fD_inj {c e : Cell} (q : fD w h c = fD w h e) {x y : Nat} (hx : x < w) (hy : y < h) : c x y = e x y := by
  unfold fD at q
  have q1 := D.tup.inj q
  have q2 : ((List.range h).map fun y => D.str (rowS w fun x => c x y))[y]? = ((List.range h).map fun y => D.str (rowS w fun x => e x y))[y]? := by rw [q1]
  simp only [List.getElem?_map, List.getElem?_range hy, Option.map_some, Option.some.injEq, D.str.injEq] at q2
  have q3 : (rowS w fun x => c x y).cps.toList[x]? = (rowS w fun x => e x y).cps.toList[x]? := by rw [q2]
  rw [rowS_get hx, rowS_get hx] at q3
  exact sg_inj (Option.some.inj q3)
section
variable {st : Sts} {row : List Dd} {p u k : Nat} {ah ah1 : AH} {mo : ME} {δ : DL}
end
end
section
variable {M : List Str} {w h : Nat} {st : Sts} {row row' : List Dd} {p u k : Nat} {ah : AH}
theorem add_int {a b : ME} {δ : DL} {ah ah1 ah2 : AH} {i j : Int} (h1 : a δ ah = some (.int i, ah1)) (h2 : b δ ah1 = some (.int j, ah2)) : eBin gAdd a b δ ah = some (.int (i + j), ah2) := bin_ev h1 h2 rfl
def bk (b d s p u : D) : List (Str × D) := [("begun", b), ("deeds", d), ("stood", s), ("past", p), ("undone_rows", u)]
theorem set_deeds (b d s p u x : D) : MM.setAttr "deeds" x (bk b d s p u) = bk b x s p u := by
  have e1 : ¬ (("begun" : Str) = "deeds") := by decide +kernel
  simp [bk, MM.setAttr, e1]
theorem set_stood (b d s p u x : D) : MM.setAttr "stood" x (bk b d s p u) = bk b d x p u := by
  have e1 : ¬ (("begun" : Str) = "stood") := by decide +kernel
  have e2 : ¬ (("deeds" : Str) = "stood") := by decide +kernel
  simp [bk, MM.setAttr, e1, e2]
theorem set_past (b d s p u x : D) : MM.setAttr "past" x (bk b d s p u) = bk b d s x u := by
  have e1 : ¬ (("begun" : Str) = "past") := by decide +kernel
  have e2 : ¬ (("deeds" : Str) = "past") := by decide +kernel
  have e3 : ¬ (("stood" : Str) = "past") := by decide +kernel
  simp [bk, MM.setAttr, e1, e2, e3]
theorem set_undone (b d s p u x : D) : MM.setAttr "undone_rows" x (bk b d s p u) = bk b d s p x := by
  have e1 : ¬ (("begun" : Str) = "undone_rows") := by decide +kernel
  have e2 : ¬ (("deeds" : Str) = "undone_rows") := by decide +kernel
  have e3 : ¬ (("stood" : Str) = "undone_rows") := by decide +kernel
  have e4 : ¬ (("past" : Str) = "undone_rows") := by decide +kernel
  simp [bk, MM.setAttr, e1, e2, e3, e4]
theorem fldM_ev {f : Str} {mo mv : ME} {δ : DL} {ah ah1 ah2 : AH} {d b dd s p u : D} {k : Nat} {l' : List (Str × D)} (hv : mv δ ah = some (d, ah1)) (ho : mo δ ah1 = some (.ptr k, ah2)) (hk : ah2[k]? = some (.ins "Book" (bk b dd s p u))) (hs : MM.setAttr f d (bk b dd s p u) = l') : sFldM ["Book"] f mo mv δ ah = some (.nx δ, ah2.set k (.ins "Book" l')) := by
  unfold sFldM
  rw [hv, Option.bind_some, ho, Option.bind_some]
  have : insAt ah2 k = some (("Book" : Str), bk b dd s p u) := by simp [insAt, hk]
  simp only [this, Option.bind_some, List.mem_singleton, hs]
  rw [if_pos ⟨trivial, by show (5 : Nat) < 100; decide⟩]
def Fr (ah ah' : AH) (ks : List Nat) : Prop := ah.length ≤ ah'.length ∧ ∀ i, i < ah.length → i ∉ ks → ah'[i]? = ah[i]?
theorem Fr.refl (ah : AH) (ks : List Nat) : Fr ah ah ks := ⟨Nat.le_refl _, fun _ _ _ => rfl⟩
theorem Fr.trans {a b c : AH} {ks : List Nat} (h1 : Fr a b ks) (h2 : Fr b c ks) : Fr a c ks := ⟨Nat.le_trans h1.1 h2.1, fun i hi hn => (h2.2 i (Nat.lt_of_lt_of_le hi h1.1) hn).trans (h1.2 i hi hn)⟩
theorem Fr.more {a b : AH} {ks ls : List Nat} (h : Fr a b ks) (e : ∀ i ∈ ks, i ∈ ls) : Fr a b ls := ⟨h.1, fun i hi hn => h.2 i hi fun hm => hn (e i hm)⟩
theorem Fr.set {ah : AH} {k : Nat} {o : AO} {ks : List Nat} (hk : k ∈ ks) : Fr ah (ah.set k o) ks := ⟨by rw [List.length_set]; exact Nat.le_refl _, fun i _ hn => List.getElem?_set_ne (fun e : k = i => hn (by rw [← e]; exact hk))⟩
theorem Fr.push {ah : AH} {o : AO} {ks : List Nat} : Fr ah (ah ++ [o]) ks := ⟨by simp, fun i hi _ => List.getElem?_append_left hi⟩
end
end K19
namespace MM
open PySem L2
theorem dEq_ptr {m n : Nat} {ah : AH} {l l' : List D} (hm : m ≤ 50) (hn : ah[n]? = some (.lst l)) (hl : l.all (pb m) = true) (hl' : l'.all (pb m) = true) : dEq ah (.ptr n) (.lst l') = some (decide (l = l')) := by
  have e := dEq_pb (n := m + 1) (ah := ah) (x := .lst l) (y := .lst l') (by omega) (by simpa [pb] using hl) (by simpa [pb] using hl')
  have t : topPy ah (.ptr n) = topPy ah (.lst l) := by
    have : asL ah (.ptr n) = some l := by simp [asL, hn]
    show (asL ah (.ptr n)).bind _ = D.py (.lst l)
    rw [this, Option.bind_some, D.py]
  have e2 : dEq ah (.ptr n) (.lst l') = dEq ah (.lst l) (.lst l') := by
    show ((topPy ah (.ptr n)).bind fun p => (topPy ah (.lst l')).bind fun r => if (SeqAt.shaped p && SeqAt.shaped r) = true then some (PyData.eqv p r) else none) = _
    rw [t]
    rfl
  rw [e2, e]
  congr 1
  exact decide_eq_decide.mpr ⟨fun q => D.lst.inj q, fun q => by rw [q]⟩
theorem mut_ev {g : AH → List D → List D → Option (D × List D)} {mo : ME} {ma : MA} {δ : DL} {ah ah1 ah2 : AH} {n : Nat} {l l2 l' ds : List D} {d : D} (ho : mo δ ah = some (.ptr n, ah1)) (hl : ah1[n]? = some (.lst l)) (ha : ma δ ah1 = some (ds, ah2)) (h2 : ah2[n]? = some (.lst l2)) (hg : g ah2 l2 ds = some (d, l')) : eMut g mo ma δ ah = some (d, ah2.set n (.lst l')) := by
  unfold eMut
  rw [ho, Option.bind_some]
  have e1 : lstAt ah1 n = some l := by simp [lstAt, hl]
  have e2 : lstAt ah2 n = some l2 := by simp [lstAt, h2]
  simp only [e1, ha, e2, hg, Option.bind_some, Option.map_some]
end MM
namespace K19
open PySem L2 MM
section
variable {M : List Str} {w h : Nat} {st : Sts} {row row' : List Dd} {p u k : Nat} {ah : AH} {past undone : List (List Dd)}
end
section
variable {M : List Str} {w h : Nat} {st : Sts} {row row' : List Dd} {p u k : Nat} {ah : AH} {past undone : List (List Dd)}
theorem trim_ptr {ah ah' : AH} {t : Nat} (ht : ah.length ≤ t) : trim ah (.ptr t, ah') = (.ptr t, ah') := by
  unfold trim
  rw [if_neg]
  simp [D.bd]
  omega
theorem add1 {a : ME} {δ : DL} {i : Nat} (ha : a δ ah = some (.int (i : Nat), ah)) : eBin gAdd a (eC (.int 1)) δ ah = some (.int ((i + 1 : Nat) : Int), ah) := by
  refine (add_int ha rfl).trans ?_
  rw [Int.natCast_succ]
structure Wh (w h : Nat) : Prop where
  w1 : 1 ≤ w
  w6 : w ≤ 6
  h1 : 1 ≤ h
  h6 : h ≤ 6
end
def bagL (v0 v1 v2 : Int) (cs : List Int) : List D := [.int v0, .int v1, .int v2, .lst (cs.map .int)]
structure BagOk (v0 v1 v2 : Int) (cs : List Int) : Prop where
  a : 0 ≤ v0
  b : 0 ≤ v1
  c : 0 ≤ v2
  d : ∀ x ∈ cs, 0 ≤ x
def BagAt (ah : AH) (b : Nat) : Prop := ∃ v0 v1 v2 cs, ah[b]? = some (.lst (bagL v0 v1 v2 cs)) ∧ BagOk v0 v1 v2 cs
def Bg (b : Nat) (ah ah' : AH) : Prop := BagAt ah b ∧ (ah' = ah ∨ ∃ v0 v1 v2 cs, BagOk v0 v1 v2 cs ∧ ah' = ah.set b (.lst (bagL v0 v1 v2 cs)))
theorem BagAt.lt {ah : AH} {b : Nat} (h : BagAt ah b) : b < ah.length := let ⟨_, _, _, _, e, _⟩ := h; (List.getElem?_eq_some_iff.mp e).1
theorem Bg.at' {b : Nat} {ah ah' : AH} (h : Bg b ah ah') : BagAt ah' b := by
  obtain ⟨h0, rfl | ⟨v0, v1, v2, cs, ok, rfl⟩⟩ := h
  · exact h0
  · exact ⟨v0, v1, v2, cs, List.getElem?_set_self h0.lt, ok⟩
theorem Bg.refl {b : Nat} {ah : AH} (h : BagAt ah b) : Bg b ah ah := ⟨h, .inl rfl⟩
theorem Bg.trans {b : Nat} {x y z : AH} (h1 : Bg b x y) (h2 : Bg b y z) : Bg b x z := by
  obtain ⟨h0, e1⟩ := h1
  obtain ⟨_, e2⟩ := h2
  refine ⟨h0, ?_⟩
  rcases e1 with rfl | ⟨v0, v1, v2, cs, ok, rfl⟩
  · exact e2
  · rcases e2 with rfl | ⟨w0, w1, w2, ds, ok2, rfl⟩
    · exact .inr ⟨_, _, _, _, ok, rfl⟩
    · exact .inr ⟨_, _, _, _, ok2, List.set_set ..⟩
theorem Bg.len {b : Nat} {x y : AH} (h : Bg b x y) : y.length = x.length := by
  obtain ⟨_, rfl | ⟨_, _, _, _, _, rfl⟩⟩ := h
  · rfl
  · rw [List.length_set]
theorem bag_bd (n : Nat) (v0 v1 v2 : Int) (cs : List Int) : D.bds n (bagL v0 v1 v2 cs) = true := by
  have : ∀ l : List Int, D.bds n (l.map D.int) = true := fun l => by
    induction l with
    | nil => rfl
    | cons a r ih => rw [List.map_cons, D.bds, ih]; rfl
  show (D.bd n (.int v0) && (D.bd n (.int v1) && (D.bd n (.int v2) && (D.bd n (.lst (cs.map .int)) && true)))) = true
  simp [D.bd, this]
theorem Bg.bd {b : Nat} {x y : AH} (h : Bg b x y) (hb : Bd x) : Bd y := by
  obtain ⟨_, rfl | ⟨_, _, _, _, _, rfl⟩⟩ := h
  · exact hb
  · exact hb.set (bag_bd ..)
theorem Bg.get {b i : Nat} {x y : AH} (h : Bg b x y) (hi : i ≠ b) : y[i]? = x[i]? := by
  obtain ⟨_, rfl | ⟨_, _, _, _, _, rfl⟩⟩ := h
  · rfl
  · exact List.getElem?_set_ne (Ne.symm hi)
theorem bag_ix {δ : DL} {ah : AH} {b i : Nat} {l : List D} {d : D} (v0 : δ[0]? = some (some (.ptr b))) (hl : ah[b]? = some (.lst l)) (e : l[i]? = some d) : eIx (eVar 0) (eC (.int (i : Nat))) δ ah = some (d, ah) := by
  refine bin_ev (var_ev v0) rfl ?_
  have hK : asK ah (.ptr b) = none := by simp [asK, hl]
  have hL : asL ah (.ptr b) = some l := by simp [asL, hl]
  have hi := (List.getElem?_eq_some_iff.mp e).1
  unfold gIx
  rw [hK]
  show (asL ah (.ptr b)).bind (fun l => atI l (i : Nat)) = _
  rw [hL, Option.bind_some, atI, ixN, if_pos (by omega), if_pos (by omega), Option.bind_some, Int.toNat_natCast, e]
theorem subL_ev {δ : DL} {ah : AH} {b i : Nat} {l : List D} {d : D} {m : ME} (v0 : δ[0]? = some (some (.ptr b))) (hl : ah[b]? = some (.lst l)) (hi : i < l.length) (hm : m δ ah = some (d, ah)) : sSubL (eVar 0) (eC (.int (i : Nat))) m δ ah = some (.nx δ, ah.set b (.lst (l.set i d))) := by
  have e : lstAt ah b = some l := by simp [lstAt, hl]
  unfold sSubL
  rw [hm, Option.bind_some, var_ev v0, Option.bind_some]
  show (Option.bind (some (D.int (i : Nat), ah)) _) = _
  rw [Option.bind_some]
  simp only [e, Option.bind_some, ixN]
  rw [if_pos (by omega), if_pos (by omega), Option.map_some, Int.toNat_natCast]
theorem augL_ev {δ : DL} {ah : AH} {b i : Nat} {l : List D} {x y : Int} (v0 : δ[0]? = some (some (.ptr b))) (hl : ah[b]? = some (.lst l)) (hi : l[i]? = some (.int x)) : sAugL (eVar 0) (eC (.int (i : Nat))) (eC (.int y)) δ ah = some (.nx δ, ah.set b (.lst (l.set i (.int (x + y))))) := by
  have e : lstAt ah b = some l := by simp [lstAt, hl]
  have hlt := (List.getElem?_eq_some_iff.mp hi).1
  have a : atI l (i : Nat) = some (.int x) := by rw [atI, ixN, if_pos (by omega), if_pos (by omega), Option.bind_some, Int.toNat_natCast, hi]
  have j : ixN l.length (i : Nat) = some i := by rw [ixN, if_pos (by omega), if_pos (by omega), Int.toNat_natCast]
  unfold sAugL
  rw [var_ev v0, Option.bind_some]
  show (Option.bind (some (D.int (i : Nat), ah)) _) = _
  rw [Option.bind_some]
  simp only [e, a, Option.bind_some]
  show (Option.bind (some (D.int y, ah)) _) = _
  rw [Option.bind_some]
  simp only [e, j, Option.bind_some, Option.map_some]
theorem mod_ev {a b : ME} {δ : DL} {ah ah1 ah2 : AH} {i j : Int} (h1 : a δ ah = some (.int i, ah1)) (h2 : b δ ah1 = some (.int j, ah2)) (hj : 0 < j) : eBin gMod a b δ ah = some (.int (i % j), ah2) := bin_ev h1 h2 (by simp [gIc, hj])
theorem mul_ev {a b : ME} {δ : DL} {ah ah1 ah2 : AH} {i j : Int} (h1 : a δ ah = some (.int i, ah1)) (h2 : b δ ah1 = some (.int j, ah2)) (hj : (-(2 ^ 64) < i ∧ i < 2 ^ 64) ∨ (-(2 ^ 64) < j ∧ j < 2 ^ 64)) : eBin gMul a b δ ah = some (.int (i * j), ah2) := bin_ev h1 h2 (by simp only [gMul]; rw [if_pos hj])
theorem div_ev {a b : ME} {δ : DL} {ah ah1 ah2 : AH} {i j : Int} (h1 : a δ ah = some (.int i, ah1)) (h2 : b δ ah1 = some (.int j, ah2)) (hj : 0 < j) (hj2 : j < 2 ^ 30) : eBin gDiv a b δ ah = some (.int (i / j), ah2) := by
  refine bin_ev h1 h2 ?_
  have : j.natAbs.log2 < 9000 := by
    rw [Nat.log2_lt (by omega)]
    exact Nat.lt_of_lt_of_le (show j.natAbs < 2 ^ 30 by omega) (Nat.pow_le_pow_right (by decide) (by decide))
  simp [gIc, hj, this]
theorem ev_take {ah : AH} {b : Nat} {many : Int} (hb : BagAt ah b) (h0 : 1 ≤ many) (h1 : many ≤ 1000) : ∃ r ah', f__law_take [.ptr b, .int many] ah = some (.int r, ah') ∧ 0 ≤ r ∧ r < many ∧ Bg b ah ah' := by
  obtain ⟨v0, v1, v2, cs, e, ok⟩ := id hb
  have lt := hb.lt
  -- the first part
  have part : ∃ x v0' v1' v2', 0 ≤ v0' ∧ 0 ≤ v1' ∧ 0 ≤ v2' ∧ (sIf (tOf (eBin gEq (eIx (eVar 0) (eC (.int 0))) (eC (.int 0)))) (sSeq (sAsg (tgN 4) (eC (.int 0))) (sSeq (sIf (tOf (eBin gLt (eIx (eVar 0) (eC (.int 2))) (e1 gLen (eIx (eVar 0) (eC (.int 3)))))) (sAsg (tgN 4) (eIx (eIx (eVar 0) (eC (.int 3))) (eIx (eVar 0) (eC (.int 2))))) sNil) (sSeq (sAugL (eVar 0) (eC (.int 2)) (eC (.int 1))) (sSeq (sIf (tOf (eBin gGe (eVar 4) (eC (.int 1000000000000000000)))) (sSubL (eVar 0) (eC (.int 0)) (eVar 4)) sNil) (sSubL (eVar 0) (eC (.int 1)) (eBin gMod (eBin gAdd (eBin gAdd (eBin gMul (eIx (eVar 0) (eC (.int 1))) (eC (.int 48271))) (eBin gMod (eVar 4) (eC (.int 2147483647)))) (eBin gMul (eC (.int 7919)) (eIx (eVar 0) (eC (.int 2))))) (eC (.int 2147483647)))))))) sNil) [some (.ptr b), some (.int many), none, none, none, none] ah = some (.nx [some (.ptr b), some (.int many), none, none, x, none], ah.set b (.lst (bagL v0' v1' v2' cs))) := by
    have t0 : tOf (eBin gEq (eIx (eVar 0) (eC (.int 0))) (eC (.int 0))) [some (.ptr b), some (.int many), none, none, none, none] ah = some (decide (v0 = 0), ah) := tof_ev (bin_ev (bag_ix (i := 0) rfl e rfl) rfl rfl)
    by_cases hv : v0 = 0
    · have c1 : ∃ c : Int, 0 ≤ c ∧ sIf (tOf (eBin gLt (eIx (eVar 0) (eC (.int 2))) (e1 gLen (eIx (eVar 0) (eC (.int 3)))))) (sAsg (tgN 4) (eIx (eIx (eVar 0) (eC (.int 3))) (eIx (eVar 0) (eC (.int 2))))) sNil [some (.ptr b), some (.int many), none, none, some (.int 0), none] ah = some (.nx [some (.ptr b), some (.int many), none, none, some (.int c), none], ah) := by
        have ln := len_lst (bag_ix (δ := [some (.ptr b), some (.int many), none, none, some (.int 0), none]) (i := 3) rfl e rfl)
        rw [List.length_map] at ln
        have t : tOf (eBin gLt (eIx (eVar 0) (eC (.int 2))) (e1 gLen (eIx (eVar 0) (eC (.int 3))))) [some (.ptr b), some (.int many), none, none, some (.int 0), none] ah = some (decide (v2 < (cs.length : Nat)), ah) := tof_ev (bin_ev (bag_ix (i := 2) rfl e rfl) ln rfl)
        by_cases hc : v2 < (cs.length : Nat)
        · have hv2 := ok.c
          have hn : v2.toNat < cs.length := by omega
          have iv : eIx (eVar 0) (eC (.int 2)) [some (.ptr b), some (.int many), none, none, some (.int 0), none] ah = some (.int (v2.toNat : Nat), ah) := (bag_ix (i := 2) rfl e rfl).trans (by rw [Int.toNat_of_nonneg hv2])
          refine ⟨cs[v2.toNat], ok.d _ (List.getElem_mem hn), ?_⟩
          rw [decide_eq_true hc] at t
          exact (if_t t).trans (asg_ev (ix_lst (i := v2.toNat) (bag_ix (i := 3) rfl e rfl) iv (by simp [hn])))
        · rw [decide_eq_false hc] at t
          exact ⟨0, Int.le_refl _, (if_f t).trans rfl⟩
      obtain ⟨c, hc, c1⟩ := c1
      rw [decide_eq_true hv] at t0
      have a1 := augL_ev (δ := [some (.ptr b), some (.int many), none, none, some (.int c), none]) (b := b) (i := 2) (y := 1) rfl e rfl
      have g1 : (ah.set b (.lst ((bagL v0 v1 v2 cs).set 2 (.int (v2 + 1)))))[b]? = some (.lst (bagL v0 v1 (v2 + 1) cs)) := List.getElem?_set_self lt
      have c2 : ∃ v0', 0 ≤ v0' ∧ sIf (tOf (eBin gGe (eVar 4) (eC (.int 1000000000000000000)))) (sSubL (eVar 0) (eC (.int 0)) (eVar 4)) sNil [some (.ptr b), some (.int many), none, none, some (.int c), none] (ah.set b (.lst ((bagL v0 v1 v2 cs).set 2 (.int (v2 + 1))))) = some (.nx [some (.ptr b), some (.int many), none, none, some (.int c), none], ah.set b (.lst (bagL v0' v1 (v2 + 1) cs))) := by
        have t : tOf (eBin gGe (eVar 4) (eC (.int 1000000000000000000))) [some (.ptr b), some (.int many), none, none, some (.int c), none] (ah.set b (.lst ((bagL v0 v1 v2 cs).set 2 (.int (v2 + 1))))) = some (decide ((1000000000000000000 : Int) ≤ c), (ah.set b (.lst ((bagL v0 v1 v2 cs).set 2 (.int (v2 + 1)))))) := tof_ev (bin_ev (x := .int c) rfl rfl rfl)
        by_cases hg : (1000000000000000000 : Int) ≤ c
        · rw [decide_eq_true hg] at t
          refine ⟨c, hc, (if_t t).trans ((subL_ev (i := 0) rfl g1 (by simp [bagL]) rfl).trans ?_)⟩
          rw [List.set_set]
          rfl
        · rw [decide_eq_false hg] at t
          exact ⟨v0, ok.a, (if_f t).trans rfl⟩
      obtain ⟨v0', hv0', c2⟩ := c2
      have g2 : (ah.set b (.lst (bagL v0' v1 (v2 + 1) cs)))[b]? = some (.lst (bagL v0' v1 (v2 + 1) cs)) := List.getElem?_set_self lt
      have m1 := mod_ev (add_int (add_int (mul_ev (bag_ix (δ := [some (.ptr b), some (.int many), none, none, some (.int c), none]) (i := 1) rfl g2 rfl) (b := eC (.int 48271)) rfl (.inr (by decide))) (mod_ev (a := eVar 4) (i := c) (b := eC (.int 2147483647)) rfl rfl (by decide))) (mul_ev (a := eC (.int 7919)) rfl (bag_ix (i := 2) rfl g2 rfl) (.inl (by decide)))) (b := eC (.int 2147483647)) rfl (by decide)
      refine ⟨some (.int c), v0', (v1 * 48271 + c % 2147483647 + 7919 * (v2 + 1)) % 2147483647, v2 + 1, hv0', Int.emod_nonneg _ (by decide), by have := ok.c; omega, (if_t t0).trans ((seq_nx (asg_ev rfl)).trans ((seq_nx c1).trans ((seq_nx a1).trans ((seq_nx c2).trans ((subL_ev (i := 1) rfl g2 (by simp [bagL]) m1).trans ?_)))))⟩
      rw [List.set_set]
      rfl
    · rw [decide_eq_false hv] at t0
      refine ⟨none, v0, v1, v2, ok.a, ok.b, ok.c, (nil_t t0).trans ?_⟩
      congr 2
      exact (List.ext_getElem? fun i => by
        by_cases hi : b = i
        · subst hi
          rw [List.getElem?_set_self lt, e]
        · rw [List.getElem?_set_ne hi])
  obtain ⟨x, w0, w1, w2, p0, p1, p2, part⟩ := part
  have g : (ah.set b (.lst (bagL w0 w1 w2 cs)))[b]? = some (.lst (bagL w0 w1 w2 cs)) := List.getElem?_set_self lt
  have t3 : tOf (eBin gGt (eIx (eVar 0) (eC (.int 0))) (eC (.int 0))) [some (.ptr b), some (.int many), none, none, x, none] (ah.set b (.lst (bagL w0 w1 w2 cs))) = some (decide (0 < w0), (ah.set b (.lst (bagL w0 w1 w2 cs)))) := tof_ev (bin_ev (bag_ix (i := 0) rfl g rfl) rfl rfl)
  by_cases hw : 0 < w0
  · rw [decide_eq_true hw] at t3
    have whole : s__law_take [some (.ptr b), some (.int many), none, none, none, none] ah = some (.rt (.int (w0 % many)), ah.set b (.lst (bagL (w0 / many) w1 w2 cs))) := by
      unfold s__law_take
      refine (seq_nx part).trans (seq_take t3 ?_)
      refine (seq_nx (asg_ev (mod_ev (bag_ix (i := 0) rfl g rfl) (b := eVar 1) (j := many) rfl (by omega)))).trans ?_
      have sb := subL_ev (δ := [some (.ptr b), some (.int many), none, none, x, some (.int (w0 % many))]) (i := 0) rfl g (by simp [bagL]) (div_ev (bag_ix (i := 0) rfl g rfl) (b := eVar 1) (j := many) rfl (by omega) (by omega))
      rw [List.set_set] at sb
      exact (seq_nx sb).trans (ret_ev (d := .int (w0 % many)) rfl)
    exact ⟨w0 % many, _, (fn_rt rfl whole).trans (congrArg some (trim_len0 (List.length_set ..))), Int.emod_nonneg _ (by omega), Int.emod_lt_of_pos _ (by omega), hb, .inr ⟨_, _, _, _, ⟨Int.ediv_nonneg (by omega) (by omega), p1, p2, ok.d⟩, rfl⟩⟩
  · rw [decide_eq_false hw] at t3
    have f1 := mod_ev (mul_ev (add_int (bag_ix (δ := [some (.ptr b), some (.int many), none, none, x, none]) (i := 1) rfl g rfl) (b := eC (.int 1)) rfl) (b := eC (.int 39373)) rfl (.inr (by decide))) (b := eC (.int 1000000007)) rfl (by decide)
    generalize hf : (w1 + 1) * 39373 % 1000000007 = fst at f1
    have hf0 : 0 ≤ fst := by rw [← hf]; exact Int.emod_nonneg _ (by decide)
    have hf1 : fst < 1000000007 := by rw [← hf]; exact Int.emod_lt_of_pos _ (by decide)
    have s1 := mod_ev (mul_ev (mod_ev (mul_ev (a := eVar 2) (b := eVar 2) (i := fst) (j := fst) (δ := [some (.ptr b), some (.int many), some (.int fst), none, x, none]) (ah := ah.set b (.lst (bagL w0 w1 w2 cs))) rfl rfl (.inl ⟨by omega, by omega⟩)) (b := eC (.int 998244353)) rfl (by decide)) (b := eC (.int 30011)) rfl (.inr (by decide))) (b := eC (.int 998244353)) rfl (by decide)
    generalize hs2 : fst * fst % 998244353 * 30011 % 998244353 = snd at s1
    have t5 : tOf (eBin gGt (eVar 1) (eC (.int 1000000))) [some (.ptr b), some (.int many), some (.int fst), some (.int snd), x, none] (ah.set b (.lst (bagL w0 w1 w2 cs))) = some (false, ah.set b (.lst (bagL w0 w1 w2 cs))) := by
      refine tof_ev (bin_ev (x := .int many) rfl rfl ?_)
      show some (D.bl (decide ((1000000 : Int) < many))) = _
      rw [decide_eq_false (by omega)]
    have whole : s__law_take [some (.ptr b), some (.int many), none, none, none, none] ah = some (.rt (.int (snd / 7 % many)), ah.set b (.lst (bagL w0 w1 w2 cs))) := by
      unfold s__law_take
      refine (seq_nx part).trans ((seq_skip t3).trans ((seq_nx (asg_ev f1)).trans ((seq_nx (asg_ev s1)).trans ((seq_skip t5).trans (ret_ev ?_)))))
      exact mod_ev (div_ev (a := eVar 3) (i := snd) (b := eC (.int 7)) rfl rfl (by decide) (by decide)) (b := eVar 1) (j := many) rfl (by omega)
    exact ⟨snd / 7 % many, _, (fn_rt rfl whole).trans (congrArg some (trim_len0 (List.length_set ..))), Int.emod_nonneg _ (by omega), Int.emod_lt_of_pos _ (by omega), hb, .inr ⟨_, _, _, _, ⟨p0, p1, p2, ok.d⟩, rfl⟩⟩
theorem take_ev {δ : DL} {ah : AH} {b i : Nat} {m : ME} {many : Int} (hb : BagAt ah b) (v : δ[i]? = some (some (.ptr b))) (hm : m δ ah = some (.int many, ah)) (h0 : 1 ≤ many) (h1 : many ≤ 1000) : ∃ (r : Nat) (ah' : AH), eCall f__law_take (aCons (eVar i) (aCons m aNil)) δ ah = some (.int (r : Nat), ah') ∧ (r : Int) < many ∧ Bg b ah ah' := by
  obtain ⟨r, ah', e, p, q, g⟩ := ev_take hb h0 h1
  refine ⟨r.toNat, ah', ?_, by omega, g⟩
  rw [Int.toNat_of_nonneg p]
  exact (call_ev (cons_ev (var_ev v) (cons_ev hm (nil_ev _ _)))).trans e
theorem ev_lbag (ns : List Int) (hn : ns.length ≤ 63) : ∃ cs, f__law_bag [.scr (ns.map .int)] [] = some (.ptr 0, [.lst (bagL 0 1234567891 0 cs)]) ∧ BagOk 0 1234567891 0 cs := by
  have e1 : eSl (eVar 0) oNone (oSome (eC (.int 63))) [some (.scr (ns.map .int)), none] [] = some (.lst (ns.map .int), []) := by
    have a1 : eSlice (eVar 0) oNone (oSome (eC (.int 63))) [some (.scr (ns.map .int)), none] [] = none := rfl
    have a2 : fSlice (eVar 0) oNone (oSome (eC (.int 63))) [some (.scr (ns.map .int)), none] [] = some (ns.map .int, []) := by
      show some (cutL (ns.map D.int) none (some ((63 : Nat) : Int)), _) = _
      unfold cutL
      rw [HT.sIx_none, HT.sIx_nat, List.drop_zero, Nat.sub_zero, List.length_map, Nat.min_eq_right hn, ← List.length_map (f := D.int), List.take_length]
    unfold eSl orE
    rw [a1]
    exact frz_ev a2
  have e2 : compGo (tgN 1) tYesM (MM.e1 gAbs (eVar 1)) [some (.scr (ns.map .int)), none] (ns.map .int) [] = some (ns.map (fun i => D.int (if i < 0 then -i else i)), []) :=
    compGo_map (i := fun i : Int => D.int i) fun i hi => ⟨[some (.scr (ns.map .int)), some (.int i)], rfl, rfl, rfl⟩
  have hs : s__law_bag [some (.scr (ns.map .int)), none] [] = some (.rt (.ptr 0), [.lst (bagL 0 1234567891 0 (ns.map fun i => if i < 0 then -i else i))]) := by
    unfold s__law_bag
    refine ret_ev ((own_ev (lst_ev (cons_ev rfl (cons_ev rfl (cons_ev rfl (cons_ev (frz_ev ((comp_ev (iAny_lst e1) (by simp; omega)).trans e2)) (nil_ev _ _))))) (by simp))).trans ?_)
    unfold bagL
    rw [List.map_map]
    rfl
  refine ⟨_, (fn_rt rfl hs).trans (congrArg some (trim_ptr (Nat.le_refl _))), Int.le_refl _, by decide, Int.le_refl _, fun x hx => ?_⟩
  obtain ⟨i, -, rfl⟩ := List.mem_map.mp hx
  split <;> omega
theorem idx3 {l : List D} {m a : ME} {δ : DL} {ah ah1 ah2 : AH} {i : Nat} {d : D} (h : m δ ah = some (.lst l, ah1)) (ha : a δ ah1 = some (.int (i : Nat), ah2)) (e : l[i]? = some d) : eIx m a δ ah = some (d, ah2) := by
  refine bin_ev h ha ?_
  have hi := (List.getElem?_eq_some_iff.mp e).1
  show (some l).bind (fun l => atI l (i : Nat)) = _
  rw [Option.bind_some, atI, ixN, if_pos (by omega), if_pos (by omega), Option.bind_some, Int.toNat_natCast, e]
theorem ev_box {ah : AH} {b : Nat} (hb : BagAt ah b) : ∃ (w h : Nat) (ah' : AH), f__law_box [.ptr b, .int 3] ah = some (.tup [.int w, .int h], ah') ∧ 1 ≤ w ∧ w ≤ 3 ∧ 1 ≤ h ∧ h ≤ 3 ∧ Bg b ah ah' := by
  obtain ⟨r1, ah1, t1, l1, g1⟩ := take_ev (δ := [some (.ptr b), some (.int 3), none]) (i := 0) (m := eVar 1) hb rfl rfl (many := 3) (by decide) (by decide)
  obtain ⟨r2, ah2, t2, l2, g2⟩ := take_ev (δ := [some (.ptr b), some (.int 3), some (.int ((r1 + 1 : Nat) : Int))]) (i := 0) (m := eVar 1) g1.at' rfl rfl (many := 3) (by decide) (by decide)
  obtain ⟨r3, ah3, t3, l3, g3⟩ := take_ev (δ := [some (.ptr b), some (.int 3), some (.int ((r1 + 1 : Nat) : Int))]) (i := 0) (m := eC (.int 3)) g2.at' rfl rfl (many := 3) (by decide) (by decide)
  have p1 : eBin gAdd (eC (.int 1)) (eCall f__law_take (aCons (eVar 0) (aCons (eVar 1) aNil))) [some (.ptr b), some (.int 3), none] ah = some (.int ((r1 + 1 : Nat) : Int), ah1) := (add_int rfl t1).trans (by rw [Int.natCast_succ, Int.add_comm])
  have p2 : eBin gAdd (eC (.int 1)) (eCall f__law_take (aCons (eVar 0) (aCons (eVar 1) aNil))) [some (.ptr b), some (.int 3), some (.int ((r1 + 1 : Nat) : Int))] ah1 = some (.int ((r2 + 1 : Nat) : Int), ah2) := (add_int rfl t2).trans (by rw [Int.natCast_succ, Int.add_comm])
  have p3 : ∃ h : Nat, 1 ≤ h ∧ h ≤ 3 ∧ [D.int ((r1 + 1 : Nat) : Int), .int ((r1 + 1 : Nat) : Int), .int ((r2 + 1 : Nat) : Int)][r3]? = some (.int h) := by
    match r3, l3 with
    | 0, _ => exact ⟨r1 + 1, by omega, by omega, rfl⟩
    | 1, _ => exact ⟨r1 + 1, by omega, by omega, rfl⟩
    | 2, _ => exact ⟨r2 + 1, by omega, by omega, rfl⟩
    | n + 3, l => omega
  obtain ⟨h, h1, h2, p3⟩ := p3
  have hs : s__law_box [some (.ptr b), some (.int 3), none] ah = some (.rt (.tup [.int ((r1 + 1 : Nat) : Int), .int h]), ah3) := by
    unfold s__law_box
    refine (seq_nx (asg_ev p1)).trans (ret_ev (tup_ev (cons_ev (var_ev rfl) (cons_ev (idx3 (frz_ev (lst_ev (cons_ev (var_ev rfl) (cons_ev (var_ev rfl) (cons_ev p2 (nil_ev _ _)))) (by simp))) t3 p3) (nil_ev _ _))) (by simp)))
  have g := g1.trans (g2.trans g3)
  exact ⟨r1 + 1, h, ah3, (fn_rt rfl hs).trans (congrArg some (trim_len0 g.len)), by omega, by omega, h1, h2, g⟩
def allT (sq : Bool) : List (Bool × Nat) := if sq = true then [(true, 0), (true, 1), (true, 2), (true, 3), (false, 0), (false, 1), (false, 2), (false, 3)] else [(true, 0), (true, 2), (false, 0), (false, 2)]
theorem ev_lturnings (w h : Nat) (ah : AH) : f__law_turnings [.tup [.int w, .int h]] ah = some (.lst ((allT (decide (w = h))).map fun t => .str (tz t.1 t.2)), ah) := by
  have t0 : tOf (eBin gEq (eIx (eVar 0) (eC (.int 0))) (eIx (eVar 0) (eC (.int 1)))) [some (.tup [.int w, .int h])] ah = some (decide (w = h), ah) := by
    refine tof_ev (bin_ev (ix_at (i := 0) rfl rfl rfl) (ix_at (i := 1) rfl rfl rfl) ?_)
    show some (D.bl (decide ((w : Int) = (h : Int)))) = _
    by_cases e : w = h
    · simp [e]
    · rw [decide_eq_false e, decide_eq_false (by omega)]
  have hs : s__law_turnings [some (.tup [.int w, .int h])] ah = some (.rt (.lst ((allT (decide (w = h))).map fun t => .str (tz t.1 t.2))), ah) := by
    unfold s__law_turnings
    cases e : decide (w = h) with
    | true => 
      rw [e] at t0
      exact seq_take t0 rfl
    | false => 
      rw [e] at t0
      exact (seq_skip t0).trans rfl
  exact (fn_rt rfl hs).trans (by rw [trim_self])
theorem all2_fn {α β : Type} [Inhabited β] {F : β → D} : ∀ {l : List α} {ds : List D}, All2 (fun _ d => ∃ c, d = F c) l ds → ∃ f : Nat → β, ds = (List.range l.length).map fun i => F (f i) := by
  intro l ds h
  have k : ∃ cs : List β, ds = cs.map F ∧ cs.length = l.length := by
    induction h with
    | nil => exact ⟨[], rfl, rfl⟩
    | cons h1 _ ih =>
      obtain ⟨c, rfl⟩ := h1
      obtain ⟨cs, rfl, e⟩ := ih
      exact ⟨c :: cs, rfl, by rw [List.length_cons, List.length_cons, e]⟩
  obtain ⟨cs, rfl, e⟩ := k
  refine ⟨fun i => cs.getD i default, ?_⟩
  refine List.ext_getElem (by simp [e]) fun i h1 h2 => ?_
  have hi : i < cs.length := by simpa using h1
  simp [hi]
def BgR (b : Nat) (x y : AH) : Prop := BagAt x b → Bg b x y
theorem BgR.rf {b : Nat} (x : AH) : BgR b x x := fun h => Bg.refl h
theorem BgR.tr {b : Nat} (x y z : AH) (h1 : BgR b x y) (h2 : BgR b y z) : BgR b x z := fun h => (h1 h).trans (h2 (h1 h).at')
def nrm (w h : Nat) (c : Cell) : Cell := fun x y => decide (x < w ∧ y < h) && c x y
theorem fD_nrm (w h : Nat) (c : Cell) : fD w h c = fD w h (nrm w h c) := fD_congr fun x y hx hy => by rw [nrm, decide_eq_true ⟨hx, hy⟩, Bool.true_and]
theorem nrm_out {w h : Nat} {c : Cell} {x y : Nat} (e : ¬ (x < w ∧ y < h)) : nrm w h c x y = false := by rw [nrm, decide_eq_false e, Bool.false_and]
def rowsD (w h : Nat) (c : Cell) : List D := (List.range h).map fun y => .str (rowS w fun x => c x y)
theorem dots (w : Nat) : repS "." (w : Nat) = rowS w fun _ => false := by
  have : ∀ n, (List.replicate n [46]).flatten = (List.range n).map fun _ => 46 := fun n => by
    rw [List.map_const', List.length_range]
    induction n with
    | zero => rfl
    | succ n ih => rw [List.replicate_succ, List.flatten_cons, ih]; rfl
  show (⟨((List.replicate ((w : Nat) : Int).toNat [46]).flatten).toArray⟩ : Str) = _
  rw [Int.toNat_natCast, this]
  rfl
theorem many1 {α : Type} (x : α) (n : Nat) : (List.replicate n [x]).flatten = (List.range n).map fun _ => x := by
  rw [List.map_const', List.length_range]
  induction n with
  | zero => rfl
  | succ n ih => rw [List.replicate_succ, List.flatten_cons, ih]; rfl
theorem flat_ev {δ : DL} {ah : AH} {w h k : Nat} (hw : w ≤ 6) (hh : h ≤ 6) (v1 : δ[k]? = some (some (.tup [.int w, .int h]))) : eBin gMul (eFrz (fLst (aCons (eBin gMul (eC (.str ".")) (eIx (eVar k) (eC (.int 0)))) aNil))) (eIx (eVar k) (eC (.int 1))) δ ah = some (.lst (rowsD w h fun _ _ => false), ah) := by
  have a1 : eBin gMul (eC (.str ".")) (eIx (eVar k) (eC (.int 0))) δ ah = some (.str (rowS w fun _ => false), ah) := by
    refine bin_ev (x := .str ".") rfl (ix_at (i := 0) (var_ev v1) rfl rfl) ?_
    show (if (0 : Int) ≤ (w : Nat) ∧ ((w : Nat) : Int) ≤ 1000 ∧ (1 : Nat) ≤ 1000 then some (D.str (repS "." (w : Nat))) else none) = _
    rw [if_pos ⟨by omega, by omega, by omega⟩, dots]
  refine bin_ev (frz_ev (lst_ev (cons_ev a1 (nil_ev _ _)) (by simp))) (ix_at (i := 1) (var_ev v1) rfl rfl) ?_
  show (some [D.str (rowS w fun _ => false)]).bind (fun l => if (0 : Int) ≤ (h : Nat) ∧ ((h : Nat) : Int) ≤ 1000 ∧ l.length ≤ 1000 then some (D.lst (List.replicate ((h : Nat) : Int).toNat l).flatten) else none) = _
  rw [Option.bind_some, if_pos ⟨by omega, by omega, by simp⟩, Int.toNat_natCast, many1]
  rfl
section
variable {b w h : Nat}
theorem row_draw {δ : DL} {ah : AH} {part : Int} (hw : w ≤ 6) (hb : BagAt ah b) (v0 : δ[0]? = some (some (.ptr b))) (v1 : δ[1]? = some (some (.tup [.int w, .int h]))) (v2 : δ[2]? = some (some (.int part))) (p1 : 1 ≤ part) (p2 : part ≤ 9) :
    ∃ (f : Nat → Bool) (ah' : AH), eJoin (eC (.str "")) (eFrz (fComp (iRng1M (eIx (eVar 1) (eC (.int 0)))) (tgN 6) tYesM (eIx (eC (.str ".o")) (e1 gInt (eBin gEq (eCall f__law_take (aCons (eVar 0) (aCons (eVar 2) aNil))) (eC (.int 0))))) [6])) δ ah = some (.str (rowS w f), ah') ∧ BgR b ah ah' := by
  have wp : ∀ i, i ≠ 6 → ∀ x, ((wipeD δ [6]).set 6 x)[i]? = δ[i]? := fun i hi x => (get_set_ne (Ne.symm hi)).trans (wipe_get_ne (by simpa using hi))
  obtain ⟨ds, ah', e, r, a2⟩ := compGo_rel (g := tgN 6) (e := eIx (eC (.str ".o")) (e1 gInt (eBin gEq (eCall f__law_take (aCons (eVar 0) (aCons (eVar 2) aNil))) (eC (.int 0))))) (δ := wipeD δ [6]) (i := fun x : Nat => D.int (x : Nat)) (P := fun _ d => ∃ c : Bool, d = .str ⟨#[sg c]⟩) (R := BgR b) BgR.rf BgR.tr (l := List.range w) (ah := ah) fun x _ ah1 hr => by
    have hb1 := (hr hb).at'
    obtain ⟨r, ah2, t, l, g⟩ := take_ev (δ := (wipeD δ [6]).set 6 (some (.int (x : Nat)))) (i := 0) (m := eVar 2) hb1 (by rw [wp 0 (by decide)]; exact v0) (var_ev (by rw [wp 2 (by decide)]; exact v2)) p1 (by omega)
    refine ⟨_, .str ⟨#[sg (decide (r = 0))]⟩, ah2, rfl, ix_o (bin_ev t rfl ?_), fun _ => g, _, rfl⟩
    show some (D.bl (decide ((r : Int) = 0))) = _
    by_cases e : r = 0
    · simp [e]
    · rw [decide_eq_false e, decide_eq_false (by omega)]
  obtain ⟨f, hf⟩ := all2_fn (F := fun c : Bool => D.str ⟨#[sg c]⟩) a2
  rw [List.length_range] at hf
  subst hf
  refine ⟨f, ah', (join_ev (f := fun x => sg (f x)) rfl (frz_ev ((comp_ev (rng1 (ix_at (i := 0) (var_ev v1) rfl rfl) (by omega)) (by simp; omega)).trans e)) (by simp; omega)).trans rfl, r⟩
theorem row_at {δ : DL} {ah : AH} {y a c : Nat} (hw : w ≤ 6) (v1 : δ[1]? = some (some (.tup [.int w, .int h]))) (v4 : δ[4]? = some (some (.tup [.int a, .int c]))) (v5 : δ[5]? = some (some (.int (y : Nat)))) (hl : 6 < δ.length) :
    eJoin (eC (.str "")) (eFrz (fComp (iRng1M (eIx (eVar 1) (eC (.int 0)))) (tgN 6) tYesM (eIx (eC (.str ".o")) (e1 gInt (eBin gEq (eTup (aCons (eVar 6) (aCons (eVar 5) aNil))) (eVar 4)))) [6])) δ ah = some (.str (rowS w fun x => decide (x = a) && decide (y = c)), ah) := by
  have wp : ∀ i, i ≠ 6 → ∀ x, ((wipeD δ [6]).set 6 x)[i]? = δ[i]? := fun i hi x => (get_set_ne (Ne.symm hi)).trans (wipe_get_ne (by simpa using hi))
  have e : compGo (tgN 6) tYesM (eIx (eC (.str ".o")) (e1 gInt (eBin gEq (eTup (aCons (eVar 6) (aCons (eVar 5) aNil))) (eVar 4)))) (wipeD δ [6]) ((List.range w).map fun i => .int (i : Nat)) ah = some ((List.range w).map (fun x => D.str ⟨#[sg (decide (x = a) && decide (y = c))]⟩), ah) :=
    compGo_map (i := fun x : Nat => D.int (x : Nat)) fun x hx => ⟨(wipeD δ [6]).set 6 (some (.int (x : Nat))), rfl, rfl, ix_o (bin_ev (tup_ev (cons_ev (var_ev (get_set (by rw [wipe_len]; exact hl))) (cons_ev (var_ev ((wp 5 (by decide) _).trans v5)) (nil_ev _ _))) (by simp)) (var_ev ((wp 4 (by decide) _).trans v4)) (by
      unfold gEq
      rw [dEq_pb (n := 2) (by decide) rfl rfl, Option.map_some]
      refine congrArg (fun b => some (D.bl b)) ?_
      rw [← Bool.decide_and]
      exact decide_eq_decide.mpr (by simp; omega)))⟩
  exact (join_ev (f := fun x => sg (decide (x = a) && decide (y = c))) rfl (frz_ev ((comp_ev (rng1 (ix_at (i := 0) (var_ev v1) rfl rfl) (by omega)) (by simp; omega)).trans e)) (by simp; omega)).trans rfl
theorem ev_lface {ah : AH} (w1 : 1 ≤ w) (hw : w ≤ 6) (h1 : 1 ≤ h) (hh : h ≤ 6) (hb : BagAt ah b) : ∃ (c : Cell) (ah' : AH), f__law_face [.ptr b, .tup [.int w, .int h]] ah = some (fD w h c, ah') ∧ (∀ x y, ¬ (x < w ∧ y < h) → c x y = false) ∧ Bg b ah ah' := by
  obtain ⟨r1, ah1, t1, l1, g1⟩ := take_ev (δ := [some (.ptr b), some (.tup [.int w, .int h]), none, none, none, none, none]) (i := 0) (m := eC (.int 6)) hb rfl rfl (many := 6) (by decide) (by decide)
  have p : ∃ part : Int, 1 ≤ part ∧ part ≤ 9 ∧ [D.int 9, .int 5, .int 3, .int 2, .int 2, .int 1][r1]? = some (.int part) := by
    match r1, l1 with
    | 0, _ => exact ⟨9, by omega, by omega, rfl⟩
    | 1, _ => exact ⟨5, by omega, by omega, rfl⟩
    | 2, _ => exact ⟨3, by omega, by omega, rfl⟩
    | 3, _ => exact ⟨2, by omega, by omega, rfl⟩
    | 4, _ => exact ⟨2, by omega, by omega, rfl⟩
    | 5, _ => exact ⟨1, by omega, by omega, rfl⟩
    | n + 6, l => omega
  obtain ⟨part, p1, p2, p⟩ := p
  have s1 := asg_ev (i := 2) (idx3 (frz_ev (lst_ev (cons_ev (ah := ah) (ah1 := ah) (a := eC (.int 9)) (δ := [some (.ptr b), some (.tup [.int w, .int h]), none, none, none, none, none]) rfl (cons_ev (a := eC (.int 5)) rfl (cons_ev (a := eC (.int 3)) rfl (cons_ev (a := eC (.int 2)) rfl (cons_ev (a := eC (.int 2)) rfl (cons_ev (a := eC (.int 1)) rfl (nil_ev _ _))))))) (by simp))) t1 p)
  obtain ⟨ds, ah2, e2, r2, a2⟩ := compGo_rel (g := tgN 5) (e := eJoin (eC (.str "")) (eFrz (fComp (iRng1M (eIx (eVar 1) (eC (.int 0)))) (tgN 6) tYesM (eIx (eC (.str ".o")) (e1 gInt (eBin gEq (eCall f__law_take (aCons (eVar 0) (aCons (eVar 2) aNil))) (eC (.int 0))))) [6]))) (δ := [some (.ptr b), some (.tup [.int w, .int h]), some (.int part), none, none, none, none]) (i := fun y : Nat => D.int (y : Nat)) (P := fun _ d => ∃ f : Nat → Bool, d = .str (rowS w f)) (R := BgR b) BgR.rf BgR.tr (l := List.range h) (ah := ah1) fun y _ ah3 hr => by
    obtain ⟨f, ah4, e, r⟩ := row_draw (δ := [some (.ptr b), some (.tup [.int w, .int h]), some (.int part), none, none, some (.int (y : Nat)), none]) (h := h) hw (hr g1.at').at' rfl rfl rfl p1 p2
    exact ⟨_, _, ah4, rfl, e, r, f, rfl⟩
  obtain ⟨f, hf⟩ := all2_fn (F := fun r : Nat → Bool => D.str (rowS w r)) a2
  rw [List.length_range] at hf
  subst hf
  have g2 := r2 g1.at'
  have s2 := asg_ev (i := 3) (frz_ev ((comp_ev (vs := [5]) (rng1 (n := h) (ix_at (i := 1) (l := [.int w, .int h]) (m := eVar 1) (δ := [some (.ptr b), some (.tup [.int w, .int h]), some (.int part), none, none, none, none]) rfl rfl rfl) (by omega)) (by simp; omega)).trans e2))
  obtain ⟨ra, ah3, t3, l3, g3⟩ := take_ev (δ := [some (.ptr b), some (.tup [.int w, .int h]), some (.int part), some (.lst (rowsD w h fun x y => f y x)), none, none, none]) (i := 0) (m := eIx (eVar 1) (eC (.int 0))) g2.at' rfl (ix_at (i := 0) rfl rfl rfl) (many := w) (by omega) (by omega)
  obtain ⟨rb, ah4, t4, l4, g4⟩ := take_ev (δ := [some (.ptr b), some (.tup [.int w, .int h]), some (.int part), some (.lst (rowsD w h fun x y => f y x)), none, none, none]) (i := 0) (m := eIx (eVar 1) (eC (.int 1))) g3.at' rfl (ix_at (i := 1) rfl rfl rfl) (many := h) (by omega) (by omega)
  have s3 := asg_ev (i := 4) (tup_ev (cons_ev t3 (cons_ev t4 (nil_ev _ _))) (by simp))
  have g := g1.trans (g2.trans (g3.trans g4))
  -- the nine
  have s4 : ∃ c : Cell, sIf (tOf (eBin gEq (eVar 2) (eC (.int 9)))) (sAsg (tgN 3) (eFrz (fComp (iRng1M (eIx (eVar 1) (eC (.int 1)))) (tgN 5) tYesM (eJoin (eC (.str "")) (eFrz (fComp (iRng1M (eIx (eVar 1) (eC (.int 0)))) (tgN 6) tYesM (eIx (eC (.str ".o")) (e1 gInt (eBin gEq (eTup (aCons (eVar 6) (aCons (eVar 5) aNil))) (eVar 4)))) [6]))) [5]))) sNil [some (.ptr b), some (.tup [.int w, .int h]), some (.int part), some (.lst (rowsD w h fun x y => f y x)), some (.tup [.int ra, .int rb]), none, none] ah4 = some (.nx [some (.ptr b), some (.tup [.int w, .int h]), some (.int part), some (.lst (rowsD w h c)), some (.tup [.int ra, .int rb]), none, none], ah4) := by
    have t : tOf (eBin gEq (eVar 2) (eC (.int 9))) [some (.ptr b), some (.tup [.int w, .int h]), some (.int part), some (.lst (rowsD w h fun x y => f y x)), some (.tup [.int ra, .int rb]), none, none] ah4 = some (decide (part = 9), ah4) := rfl
    by_cases hp : part = 9
    · rw [decide_eq_true hp] at t
      have e : compGo (tgN 5) tYesM (eJoin (eC (.str "")) (eFrz (fComp (iRng1M (eIx (eVar 1) (eC (.int 0)))) (tgN 6) tYesM (eIx (eC (.str ".o")) (e1 gInt (eBin gEq (eTup (aCons (eVar 6) (aCons (eVar 5) aNil))) (eVar 4)))) [6]))) [some (.ptr b), some (.tup [.int w, .int h]), some (.int part), some (.lst (rowsD w h fun x y => f y x)), some (.tup [.int ra, .int rb]), none, none] ((List.range h).map fun i => .int (i : Nat)) ah4 = some ((List.range h).map (fun y => D.str (rowS w fun x => decide (x = ra) && decide (y = rb))), ah4) :=
        compGo_map (i := fun y : Nat => D.int (y : Nat)) fun y hy => ⟨[some (.ptr b), some (.tup [.int w, .int h]), some (.int part), some (.lst (rowsD w h fun x y => f y x)), some (.tup [.int ra, .int rb]), some (.int (y : Nat)), none], rfl, rfl, row_at (h := h) hw rfl rfl rfl (by simp)⟩
      exact ⟨fun x y => decide (x = ra) && decide (y = rb), (if_t t).trans (asg_ev (frz_ev ((comp_ev (vs := [5]) (rng1 (n := h) (ix_at (i := 1) (l := [.int w, .int h]) (m := eVar 1) rfl rfl rfl) (by omega)) (by simp; omega)).trans e)))⟩
    · rw [decide_eq_false hp] at t
      exact ⟨fun x y => f y x, nil_t t⟩
  obtain ⟨c, s4⟩ := s4
  have s5 : ∃ c' : Cell, sIf (tAndM (tOf (eBin gEq (eVar 2) (eC (.int 5)))) (tOf (eBin gEq (eIx (eVar 4) (eC (.int 0))) (eC (.int 0))))) (sAsg (tgN 3) (eBin gMul (eFrz (fLst (aCons (eBin gMul (eC (.str ".")) (eIx (eVar 1) (eC (.int 0)))) aNil))) (eIx (eVar 1) (eC (.int 1))))) sNil [some (.ptr b), some (.tup [.int w, .int h]), some (.int part), some (.lst (rowsD w h c)), some (.tup [.int ra, .int rb]), none, none] ah4 = some (.nx [some (.ptr b), some (.tup [.int w, .int h]), some (.int part), some (.lst (rowsD w h c')), some (.tup [.int ra, .int rb]), none, none], ah4) := by
    have t : tOf (eBin gEq (eVar 2) (eC (.int 5))) [some (.ptr b), some (.tup [.int w, .int h]), some (.int part), some (.lst (rowsD w h c)), some (.tup [.int ra, .int rb]), none, none] ah4 = some (decide (part = 5), ah4) := rfl
    have t' : tOf (eBin gEq (eIx (eVar 4) (eC (.int 0))) (eC (.int 0))) [some (.ptr b), some (.tup [.int w, .int h]), some (.int part), some (.lst (rowsD w h c)), some (.tup [.int ra, .int rb]), none, none] ah4 = some (decide ((ra : Int) = 0), ah4) := rfl
    by_cases hp : part = 5
    · rw [decide_eq_true hp] at t
      by_cases h0 : (ra : Int) = 0
      · rw [decide_eq_true h0] at t'
        exact ⟨fun _ _ => false, (if_t ((tand_t t).trans t')).trans (asg_ev (flat_ev hw hh rfl))⟩
      · rw [decide_eq_false h0] at t'
        exact ⟨c, nil_t ((tand_t t).trans t')⟩
    · rw [decide_eq_false hp] at t
      exact ⟨c, nil_t (tand_f t)⟩
  obtain ⟨c', s5⟩ := s5
  have hs : s__law_face [some (.ptr b), some (.tup [.int w, .int h]), none, none, none, none, none] ah = some (.rt (fD w h (nrm w h c')), ah4) := by
    unfold s__law_face
    refine (seq_nx s1).trans ((seq_nx s2).trans ((seq_nx s3).trans ((seq_nx s4).trans ((seq_nx s5).trans ?_))))
    rw [← fD_nrm]
    exact ret_ev (e1_ev (var_ev rfl) rfl)
  exact ⟨nrm w h c', ah4, (fn_rt rfl hs).trans (congrArg some (trim_len0 g.len)), fun x y => nrm_out, g⟩
end
def tx (l : List Nat) : Str := ⟨l.toArray⟩
theorem tx_len (l : List Nat) : (tx l).length = l.length := by simp [tx, Str.length]
theorem tx_add {a b : ME} {δ : DL} {ah ah1 ah2 : AH} {l m : List Nat} (h1 : a δ ah = some (.str (tx l), ah1)) (h2 : b δ ah1 = some (.str (tx m), ah2)) (hl : l.length + m.length ≤ 1000) : eBin gAdd a b δ ah = some (.str (tx (l ++ m)), ah2) := by
  refine bin_ev h1 h2 ?_
  show (if (tx l).length + (tx m).length ≤ 100000 then some (D.str (tx l ++ tx m)) else none) = _
  rw [if_pos (by rw [tx_len, tx_len]; omega)]
  refine congrArg (fun s => some (D.str s)) ?_
  show (⟨l.toArray ++ m.toArray⟩ : Str) = _
  rw [List.append_toArray]
  rfl
theorem cut_tx (l : List Nat) (lo hi : Option Int) : cutS (tx l) lo hi = tx (cutL l lo hi) := by
  unfold cutS cutL tx
  simp [Str.length]
theorem tx_take {m a : ME} {δ : DL} {ah ah1 ah2 : AH} {l : List Nat} {i : Nat} (h : m δ ah = some (.str (tx l), ah1)) (ha : a δ ah1 = some (.int (i : Nat), ah2)) (hl : l.length ≤ 1000) : eSl m oNone (oSome a) δ ah = some (.str (tx (l.take i)), ah2) := by
  have e1 : eSlice m oNone (oSome a) δ ah = some (.str (tx (l.take i)), ah2) := by
    simp only [eSlice, oNone, oSome, h, ha, Option.bind_some]
    rw [if_pos (by rw [tx_len]; omega), cut_tx]
    unfold cutL
    rw [HT.sIx_none, HT.sIx_nat, List.drop_zero, Nat.sub_zero, ← List.take_take, List.take_length]
  unfold eSl orE
  rw [e1]
theorem tx_drop {m a : ME} {δ : DL} {ah ah1 ah2 : AH} {l : List Nat} {i : Nat} (h : m δ ah = some (.str (tx l), ah1)) (ha : a δ ah1 = some (.int (i : Nat), ah2)) (hl : l.length ≤ 1000) : eSl m (oSome a) oNone δ ah = some (.str (tx (l.drop i)), ah2) := by
  have e1 : eSlice m (oSome a) oNone δ ah = some (.str (tx (l.drop i)), ah2) := by
    simp only [eSlice, oNone, oSome, h, ha, Option.bind_some]
    rw [if_pos (by rw [tx_len]; omega), cut_tx]
    unfold cutL
    rw [HT.sIx_none, HT.sIx_nat]
    by_cases hi : i ≤ l.length
    · rw [Nat.min_eq_left hi, List.take_of_length_le (by rw [List.length_drop]; exact Nat.le_refl _)]
    · rw [Nat.min_eq_right (by omega), List.drop_length, List.drop_of_length_le (by omega), List.take_nil]
  unfold eSl orE
  rw [e1]
theorem tx_mul {m a : ME} {δ : DL} {ah ah1 ah2 : AH} {c n : Nat} (h : m δ ah = some (.str (tx [c]), ah1)) (ha : a δ ah1 = some (.int (n : Nat), ah2)) (hn : n ≤ 1000) : eBin gMul m a δ ah = some (.str (tx (List.replicate n c)), ah2) := by
  refine bin_ev h ha ?_
  show (if (0 : Int) ≤ (n : Nat) ∧ ((n : Nat) : Int) ≤ 1000 ∧ (tx [c]).length ≤ 1000 then some (D.str (repS (tx [c]) (n : Nat))) else none) = _
  rw [if_pos ⟨by omega, by omega, by rw [tx_len]; simp⟩]
  refine congrArg (fun s => some (D.str s)) ?_
  show (⟨((List.replicate ((n : Nat) : Int).toNat [c]).flatten).toArray⟩ : Str) = _
  rw [Int.toNat_natCast, many1, List.map_const', List.length_range]
  rfl
def abc : List Nat := (List.range 26).map fun i => 97 + i
theorem abc_at {i : Nat} (h : i < 26) : ("abcdefghijklmnopqrstuvwxyz" : Str).cps.toList[i]? = some (97 + i) := by
  have : ("abcdefghijklmnopqrstuvwxyz" : Str).cps.toList = (List.range 26).map fun i => 97 + i := by decide +kernel
  rw [this]
  simp [h]
theorem abc_in {i : Nat} (h : i < 26) : 97 + i ∈ ("abcdefghijklmnopqrstuvwxyz" : Str).cps.toList := List.mem_of_getElem? (abc_at h)
theorem letter {m : ME} {k : Nat} {δ : DL} {ah ah1 : AH} {i : Nat} (v : δ[k]? = some (some (.str "abcdefghijklmnopqrstuvwxyz"))) (hm : m δ ah = some (.int (i : Nat), ah1)) (hi : i < 26) : eIx (eVar k) m δ ah = some (.str (tx [97 + i]), ah1) :=
  ix_str (var_ev v) hm (by decide) (abc_at hi)
def nmL (n L a s k : Nat) : List Nat := ((List.replicate n L).take a ++ [97 + (s + 7 * k) % 26]) ++ (List.replicate n L).drop (a + 1)
def nmW (n L a s k : Nat) : List Nat := nmL n L a s k ++ List.replicate (if n < 8 then k % 2 else 0) L
theorem nmL_len {n L a s k : Nat} (ha : a < n) : (nmL n L a s k).length = n := by
  simp [nmL]
  omega
theorem nm_at {n L a s k : Nat} (ha : a < n) : (nmW n L a s k)[a]? = some (97 + (s + 7 * k) % 26) := by
  have h1 : ((List.replicate n L).take a).length = a := by simp; omega
  unfold nmW nmL
  rw [List.append_assoc, List.append_assoc, List.getElem?_append_right (by rw [h1]; exact Nat.le_refl _), h1, Nat.sub_self]
  rfl
theorem nm_ne {n L a s i j : Nat} (ha : a < n) (hi : i < j) (hj : j < 4) : tx (nmW n L a s i) ≠ tx (nmW n L a s j) := fun e => by
  have e2 : nmW n L a s i = nmW n L a s j := by
    have := congrArg (fun z : Str => z.cps.toList) e
    simpa [tx] using this
  have := nm_at (L := L) (s := s) (k := i) ha
  rw [e2, nm_at ha] at this
  have := Option.some.inj this
  omega
def words : List Str := ["cut", "press", "print", "turn", "cuts", "o"]
def wordsAt (r many : Nat) : List Str := (words.drop r ++ words.take r).take many
theorem BagAt.app {A G : AH} {b : Nat} (h : BagAt A b) : BagAt (A ++ G) b := by
  obtain ⟨v0, v1, v2, cs, e, ok⟩ := id h
  exact ⟨v0, v1, v2, cs, by rw [List.getElem?_append_left h.lt]; exact e, ok⟩
theorem Bg.app {A G H : AH} {b : Nat} (hb : BagAt A b) (h : Bg b (A ++ G) H) : ∃ A', H = A' ++ G ∧ Bg b A A' := by
  obtain ⟨-, rfl | ⟨v0, v1, v2, cs, ok, rfl⟩⟩ := h
  · exact ⟨A, rfl, Bg.refl hb⟩
  · exact ⟨_, List.set_append_left _ _ hb.lt, hb, .inr ⟨v0, v1, v2, cs, ok, rfl⟩⟩
theorem take_app {δ : DL} {A G : AH} {b i : Nat} {m : ME} {many : Int} (hb : BagAt A b) (v : δ[i]? = some (some (.ptr b))) (hm : m δ (A ++ G) = some (.int many, A ++ G)) (h0 : 1 ≤ many) (h1 : many ≤ 1000) : ∃ (r : Nat) (A' : AH), eCall f__law_take (aCons (eVar i) (aCons m aNil)) δ (A ++ G) = some (.int (r : Nat), A' ++ G) ∧ (r : Int) < many ∧ Bg b A A' := by
  obtain ⟨r, H, e, l, g⟩ := take_ev hb.app v hm h0 h1
  obtain ⟨A', rfl, g'⟩ := g.app hb
  exact ⟨r, A', e, l, g'⟩
theorem two0 {A : AH} {x y : AO} {L : Nat} (e : A.length = L) : (A ++ [x, y])[L]? = some x := by subst e; simp
theorem two1 {A : AH} {x y : AO} {L : Nat} (e : A.length = L) : (A ++ [x, y])[L + 1]? = some y := by subst e; simp
theorem twoS0 {A : AH} {x y z : AO} {L : Nat} (e : A.length = L) : (A ++ [x, y]).set L z = A ++ [z, y] := by subst e; simp
theorem twoS1 {A : AH} {x y z : AO} {L : Nat} (e : A.length = L) : (A ++ [x, y]).set (L + 1) z = A ++ [x, z] := by subst e; simp
theorem put_ev {k n : Nat} {mi mv : ME} {δ : DL} {H0 H : AH} {l : List (Key × D)} {a : Str} {v : D} (vk : δ[k]? = some (some (.ptr n))) (hv : mv δ H0 = some (v, H)) (hi : mi δ H = some (.str a, H)) (hd : H[n]? = some (.dic l)) (hl : l.length < 100000) : sSubD (eVar k) mi mv δ H0 = some (.nx δ, H.set n (.dic (putD l (.inr a) v))) := by
  have da : dicAt H n = some l := by simp [dicAt, hd]
  have hk' : keyOf (.str a) = some (.inr a) := rfl
  unfold sSubD
  rw [hv, Option.bind_some, var_ev vk, Option.bind_some, hi, Option.bind_some]
  simp only [hk', Option.bind_some, da, hl, if_true]
theorem ix_lstp {m b : ME} {δ : DL} {ah ah1 ah2 : AH} {n i : Nat} {l : List D} {d : D} (h : m δ ah = some (.ptr n, ah1)) (hd : ah2[n]? = some (.lst l)) (hb : b δ ah1 = some (.int (i : Nat), ah2)) (e : l[i]? = some d) : eIx m b δ ah = some (d, ah2) := by
  refine bin_ev h hb ?_
  have hK : asK ah2 (.ptr n) = none := by simp [asK, hd]
  have hL : asL ah2 (.ptr n) = some l := by simp [asL, hd]
  have hi := (List.getElem?_eq_some_iff.mp e).1
  unfold gIx
  rw [hK]
  show (asL ah2 (.ptr n)).bind (fun l => atI l (i : Nat)) = _
  rw [hL, Option.bind_some, atI, ixN, if_pos (by omega), if_pos (by omega), Option.bind_some, Int.toNat_natCast, e]
theorem len_lstp {m : ME} {δ : DL} {ah ah1 : AH} {n : Nat} {l : List D} (h : m δ ah = some (.ptr n, ah1)) (hd : ah1[n]? = some (.lst l)) : e1 gLen m δ ah = some (.int l.length, ah1) := e1_ev h (by simp [gLen, asL, asK, hd])
theorem bds_map {α : Type} {n : Nat} {f : α → D} (hf : ∀ x, D.bd n (f x) = true) : ∀ l : List α, D.bds n (l.map f) = true
  | [] => rfl
  | x :: r => by rw [List.map_cons, D.bds, hf, bds_map hf r]; rfl
section
variable {b w h : Nat}
theorem spin_ok {w h : Nat} {t : Bool × Nat} (ht : t ∈ allT (decide (w = h))) (c : Cell) : t.2 ≤ 3 ∧ ∃ c', fB (turnB t.1 t.2 (w, h, c)) = fD w h c' := by
  by_cases e : w = h
  · subst e
    simp only [allT, decide_true, if_true, List.mem_cons, List.not_mem_nil, or_false] at ht
    rcases ht with rfl | rfl | rfl | rfl | rfl | rfl | rfl | rfl <;> exact ⟨by decide, _, rfl⟩
  · simp only [allT, decide_eq_false e, Bool.false_eq_true, if_false, List.mem_cons, List.not_mem_nil, or_false] at ht
    rcases ht with rfl | rfl | rfl | rfl <;> exact ⟨by decide, _, rfl⟩
theorem allT_len (s : Bool) : 1 ≤ (allT s).length ∧ (allT s).length ≤ 8 := by cases s <;> decide
def fcD (b w h : Nat) (M : List Str) (L : Nat) (o5 o6 o7 o8 : Option D) : DL := [some (.ptr b), some (.tup [.int w, .int h]), some (.lst (M.map .str)), some (.ptr L), some (.ptr (L + 1)), o5, o6, o7, o8]
end
section
variable {b w h : Nat}
end
section
variable {M : List Str} {w h : Nat} {st : Sts} {row : List Dd} {p u k : Nat} {ah : AH} {past undone : List (List Dd)}
theorem sfld_ev {f c : Str} {mo mv : ME} {δ : DL} {ah ah1 ah2 : AH} {d : D} {k : Nat} {l l' : List (Str × D)} (hv : mv δ ah = some (d, ah1)) (ho : mo δ ah1 = some (.ptr k, ah2)) (hk : ah2[k]? = some (.ins c l)) (hl : l.length < 100) (hs : MM.setAttr f d l = l') : sFldM [c] f mo mv δ ah = some (.nx δ, ah2.set k (.ins c l')) := by
  unfold sFldM
  rw [hv, Option.bind_some, ho, Option.bind_some]
  have : insAt ah2 k = some (c, l) := by simp [insAt, hk]
  simp only [this, Option.bind_some, List.mem_singleton, hs]
  rw [if_pos ⟨trivial, hl⟩]
theorem trim_keep {ah ah' : AH} {d : D} {n : Nat} {o : AO} (hn : n < ah.length) (e : ah'[n]? = some o) (ho : AO.bd ah.length o = false) : trim ah (d, ah') = (d, ah') := by
  unfold trim
  rw [if_neg]
  rw [Bool.and_eq_true]
  rintro ⟨-, h2⟩
  rw [List.all_eq_true] at h2
  have := h2 o (List.mem_of_getElem? (i := n) (by rw [List.getElem?_take_of_lt hn]; exact e))
  rw [ho] at this
  cases this
end
theorem trim_two {ah ah' : AH} {d : D} (hl : ah.length ≤ ah'.length) (hb : Bd ah') : ∃ ah'', trim ah (d, ah') = (d, ah'') ∧ (∀ i, i < ah.length → ah''[i]? = ah'[i]?) ∧ Bd ah'' ∧ ah.length ≤ ah''.length ∧ (ah'' = ah' ∨ (ah''.length = ah.length ∧ ∀ o ∈ ah'', AO.bd ah.length o = true)) := by
  unfold trim
  split
  · rename_i h
    simp only [Bool.and_eq_true, List.all_eq_true] at h
    have e : (ah'.take ah.length).length = ah.length := by rw [List.length_take]; omega
    exact ⟨ah'.take ah.length, rfl, fun i hi => List.getElem?_take_of_lt hi, fun o ho => by rw [e]; exact h.2 o ho, by omega, .inr ⟨e, h.2⟩⟩
  · exact ⟨_, rfl, fun _ _ => rfl, hb, hl, .inl rfl⟩
section
variable {M : List Str} {w h : Nat}
def HeldOk (Hs : List D) : Prop := ∀ d ∈ Hs, ∃ T : List D, d = .tup [.lst T, .lst T] ∧ ∀ x ∈ T, pb 1 x = true
theorem held_same {ah : AH} {T : List D} (hT : ∀ x ∈ T, pb 1 x = true) : gNe ah (.lst T) (.lst T) = some (.bl false) := by
  have p : pb 2 (.lst T) = true := by
    show T.all (pb 1) = true
    exact List.all_eq_true.mpr hT
  unfold gNe
  rw [dEq_pb (n := 2) (by decide) p p]
  simp
theorem held_none {δ : DL} {ah : AH} : ∀ {Hs : List D}, HeldOk Hs → 9 < δ.length → compGo (tgT (tgCons (tgN 8) (tgCons (tgN 9) tgNil))) (tOf (eBin gNe (eVar 8) (eVar 9))) (eC (.int 1)) δ Hs ah = some ([], ah)
  | [], _, _ => rfl
  | d :: r, hh, hl => by
    obtain ⟨T, rfl, hT⟩ := hh d (by simp)
    have ih := held_none (δ := δ) (ah := ah) (Hs := r) (fun d hd => hh d (by simp [hd])) hl
    have g : tgT (tgCons (tgN 8) (tgCons (tgN 9) tgNil)) (.tup [.lst T, .lst T]) δ = some ((δ.set 8 (some (.lst T))).set 9 (some (.lst T))) := rfl
    have t : tOf (eBin gNe (eVar 8) (eVar 9)) ((δ.set 8 (some (.lst T))).set 9 (some (.lst T))) ah = some (false, ah) := tof_ev (bin_ev (var_ev ((get_set_ne (by decide)).trans (get_set (by omega)))) (var_ev (get_set (by rw [List.length_set]; exact hl))) (held_same hT))
    simp only [compGo, g, t, ih, Option.bind_some, Bool.false_eq_true, if_false]
end
theorem subLp_ev {δ : DL} {H : AH} {j b i : Nat} {l : List D} {d : D} {m : ME} (v : δ[j]? = some (some (.ptr b))) (hl : H[b]? = some (.lst l)) (hi : i < l.length) (hm : m δ H = some (d, H)) : sSubL (eVar j) (eC (.int (i : Nat))) m δ H = some (.nx δ, H.set b (.lst (l.set i d))) := by
  have e : lstAt H b = some l := by simp [lstAt, hl]
  unfold sSubL
  rw [hm, Option.bind_some, var_ev v, Option.bind_some]
  show (Option.bind (some (D.int (i : Nat), H)) _) = _
  rw [Option.bind_some]
  simp only [e, Option.bind_some, ixN]
  rw [if_pos (by omega), if_pos (by omega), Option.map_some, Int.toNat_natCast]
section
variable {M : List Str} {w h : Nat} {st : Sts}
end
section
variable {M : List Str} {w h : Nat} {st : Sts}
theorem chain_ev {a b c : ME} {δ : DL} {ah : AH} {i j k : Int} (h1 : a δ ah = some (.int i, ah)) (h2 : b δ ah = some (.int j, ah)) (h3 : c δ ah = some (.int k, ah)) : eChain gLe gLt a b c δ ah = some (.bl (decide (i ≤ j) && decide (j < k)), ah) := by
  cases e1 : decide (i ≤ j) <;> simp [eChain, h1, h2, h3, gI, gLe, gLt, e1]
theorem par_ev {i j : Nat} {a b : ME} {δ : DL} {ah ah1 ah2 : AH} {d e : D} (h1 : a δ ah = some (d, ah1)) (h2 : b δ ah1 = some (e, ah2)) : sPar i j a b δ ah = some (.nx ((δ.set i (some d)).set j (some e)), ah2) := by
  unfold sPar
  rw [h1, Option.bind_some, h2, Option.map_some]
theorem eif_t {c : MT} {a b : ME} {δ : DL} {ah ah1 : AH} (h : c δ ah = some (true, ah1)) : eIf c a b δ ah = a δ ah1 := by
  unfold eIf
  rw [h]
  rfl
theorem eif_f {c : MT} {a b : ME} {δ : DL} {ah ah1 : AH} (h : c δ ah = some (false, ah1)) : eIf c a b δ ah = b δ ah1 := by
  unfold eIf
  rw [h]
  rfl
end
section
variable {α : Type}
theorem take_one {l : List α} {i : Nat} {d : α} (hi : i < l.length) : l.take (i + 1) = l.take i ++ [l.getD i d] := by
  rw [List.take_succ]
  simp [hi]
theorem drop_one {l : List α} {i : Nat} {d : α} (hi : i < l.length) : l.drop i = l.getD i d :: l.drop (i + 1) := by
  rw [List.drop_eq_getElem_cons hi]
  simp [hi]
theorem rev_one {l : List α} {i : Nat} {d : α} (hi : i < l.length) : (l.drop i).reverse = (l.drop (i + 1)).reverse ++ [l.getD i d] := by
  rw [drop_one (d := d) hi, List.reverse_cons]
end
section
variable {M : List Str} {w h : Nat} {st : Sts}
end
section
variable {M : List Str} {w h : Nat} {st : Sts}
theorem ixp_ev {δ : DL} {ah : AH} {j b i : Nat} {l : List D} {d : D} (v0 : δ[j]? = some (some (.ptr b))) (hl : ah[b]? = some (.lst l)) (e : l[i]? = some d) : eIx (eVar j) (eC (.int (i : Nat))) δ ah = some (d, ah) := by
  refine bin_ev (var_ev v0) rfl ?_
  have hK : asK ah (.ptr b) = none := by simp [asK, hl]
  have hL : asL ah (.ptr b) = some l := by simp [asL, hl]
  have hi := (List.getElem?_eq_some_iff.mp e).1
  unfold gIx
  rw [hK]
  show (asL ah (.ptr b)).bind (fun l => atI l (i : Nat)) = _
  rw [hL, Option.bind_some, atI, ixN, if_pos (by omega), if_pos (by omega), Option.bind_some, Int.toNat_natCast, e]
end
theorem idxP {m a : ME} {δ : DL} {ah ah1 ah2 : AH} {b i : Nat} {l : List D} {d : D} (hm : m δ ah = some (.ptr b, ah1)) (ha : a δ ah1 = some (.int (i : Nat), ah2)) (hl : ah2[b]? = some (.lst l)) (e : l[i]? = some d) : eIx m a δ ah = some (d, ah2) := by
  refine bin_ev hm ha ?_
  have hK : asK ah2 (.ptr b) = none := by simp [asK, hl]
  have hL : asL ah2 (.ptr b) = some l := by simp [asL, hl]
  have hi := (List.getElem?_eq_some_iff.mp e).1
  unfold gIx
  rw [hK]
  show (asL ah2 (.ptr b)).bind (fun l => atI l (i : Nat)) = _
  rw [hL, Option.bind_some, atI, ixN, if_pos (by omega), if_pos (by omega), Option.bind_some, Int.toNat_natCast, e]
theorem lenP {m : ME} {δ : DL} {ah ah1 : AH} {b : Nat} {l : List D} (hm : m δ ah = some (.ptr b, ah1)) (hl : ah1[b]? = some (.lst l)) : e1 gLen m δ ah = some (.int l.length, ah1) := by
  refine e1_ev hm ?_
  have hK : asK ah1 (.ptr b) = none := by simp [asK, hl]
  have hL : asL ah1 (.ptr b) = some l := by simp [asL, hl]
  simp [gLen, hK, hL]
section
variable {M : List Str} {w h : Nat} {st : Sts}
end
theorem nil_t' {t : MT} {a : MS} {δ : DL} {ah ah1 : AH} (h : t δ ah = some (false, ah1)) : sIf t a sNil δ ah = some (.nx δ, ah1) := (if_f h).trans rfl
section
variable {M : List Str} {w h : Nat} {st : Sts}
end
end K19

set_option linter.all false
set_option maxRecDepth 100000
namespace K19
open PySem L2 MM
open LM (mv1 moved)
theorem ev_top_bit {n : Nat} {ah : AH} (h : 0 < n) (hl : n < 2 ^ 64) : f_top_bit [nD n] ah = some (nD (2 ^ n.log2), ah) := by
  have lg : n.log2 < 64 := (Nat.log2_lt (by omega)).mpr hl
  have hs : s_top_bit [some (nD n)] ah = some (.rt (nD (2 ^ n.log2)), ah) := by
    unfold s_top_bit
    refine ret_ev ((shln (cn 1) (subn (bitn (var_ev rfl) h) (cn 1) (by omega)) (by decide) (by omega)).trans ?_)
    rw [Nat.one_mul, Nat.add_sub_cancel]
  exact (fn_rt rfl hs).trans (by rw [trim_self])
def Ps (L : List Nat) : Prop := ∀ r ∈ L, 0 < r ∧ r < 2 ^ 64
theorem Ps.of {B : Nat} {L : List Nat} (h : LM.Pl B L) (hB : B ≤ 64) : Ps L := fun r hr => ⟨h.pos r hr, Nat.lt_of_lt_of_le (h.lt r hr) (Nat.pow_le_pow_right (by decide) hB)⟩
def nsD (l : List Nat) : D := .lst (l.map nD)
theorem ev_sifted {rows : List Nat} {n : Nat} {ah : AH} (h : Ps rows) : f_sifted [nsD rows, nD n] ah = some (nD (LM.sift rows n), ah) := by
  obtain ⟨δ', e, x, rfl⟩ := for_fold (g := tgN 2) (b := sIf (tOf (eBin gNe (eBin gAnd (eVar 1) (eCall f_top_bit (aCons (eVar 2) aNil))) (eC (.int 0)))) (sAsg (tgN 1) (eBin gXor (eVar 1) (eVar 2))) sNil) (i := nD) (f := LM.sift1) (J := fun n δ => ∃ x, δ = [some (nsD rows), some (nD n), x]) (ah := ah) (l := rows) (s := n) (δ := [some (nsD rows), some (nD n), none]) ⟨_, rfl⟩ (by
    rintro r hr m δ ⟨x, rfl⟩
    have t := bit_test (δ := [some (nsD rows), some (nD m), some (nD r)]) (ah := ah) (a := eVar 1) (b := eCall f_top_bit (aCons (eVar 2) aNil)) (n := m) (k := r.log2) rfl ((call_ev (cons_ev (var_ev rfl) (nil_ev _ _))).trans (ev_top_bit (h r hr).1 (h r hr).2))
    refine ⟨_, [some (nsD rows), some (nD (LM.sift1 m r)), some (nD r)], rfl, ?_, _, rfl⟩
    unfold LM.sift1
    cases e : m.testBit r.log2 with
    | true =>
      rw [e] at t
      exact (if_t t).trans (asg_ev (xorn rfl rfl))
    | false =>
      rw [e] at t
      exact nil_t' t)
  have hs : s_sifted [some (nsD rows), some (nD n), none] ah = some (.rt (nD (LM.sift rows n)), ah) := by
    unfold s_sifted
    exact (seq_nx ((for_ev (iAny_lst (l := rows.map nD) (var_ev rfl))).trans e)).trans (ret_ev (var_ev rfl))
  exact (fn_rt rfl hs).trans (by rw [trim_self])
theorem ev_joined {rows : List Nat} {n : Nat} {ah : AH} (h : Ps rows) (hs : LM.sift rows n < 2 ^ 64) (hl : rows.length ≤ 1000) : f_joined_rows [nsD rows, nD n] ah = some (nsD (LM.join rows n), ah) := by
  have a1 : sAsg (tgN 2) (eCall f_sifted (aCons (eVar 0) (aCons (eVar 1) aNil))) [some (nsD rows), some (nD n), none, none, none, none] ah = some (.nx [some (nsD rows), some (nD n), some (nD (LM.sift rows n)), none, none, none], ah) := asg_ev ((call_ev (cons_ev (var_ev rfl) (cons_ev (var_ev rfl) (nil_ev _ _)))).trans (ev_sifted h))
  suffices hw : s_joined_rows [some (nsD rows), some (nD n), none, none, none, none] ah = some (.rt (nsD (LM.join rows n)), ah) from (fn_rt rfl hw).trans (by rw [trim_self])
  unfold s_joined_rows LM.join
  generalize LM.sift rows n = x at *
  have t := eqn (δ := [some (nsD rows), some (nD n), some (nD x), none, none, none]) (ah := ah) (a := eVar 2) (n := x) (k := 0) rfl (cn 0)
  refine (seq_nx a1).trans ?_
  by_cases h0 : x = 0
  · rw [decide_eq_true h0] at t
    rw [if_pos h0]
    exact seq_take t (ret_ev (var_ev rfl))
  · rw [decide_eq_false h0] at t
    rw [if_neg h0]
    have a2 : sAsg (tgN 3) (eCall f_top_bit (aCons (eVar 2) aNil)) [some (nsD rows), some (nD n), some (nD x), none, none, none] ah = some (.nx [some (nsD rows), some (nD n), some (nD x), some (nD (2 ^ x.log2)), none, none], ah) := asg_ev ((call_ev (cons_ev (var_ev rfl) (nil_ev _ _))).trans (ev_top_bit (by omega) hs))
    have a3 : sAsg (tgN 4) (eFrz (fComp (iAny (eVar 0)) (tgN 5) tYesM (eIf (tOf (eBin gNe (eBin gAnd (eVar 5) (eVar 3)) (eC (.int 0)))) (eBin gXor (eVar 5) (eVar 2)) (eVar 5)) [5])) [some (nsD rows), some (nD n), some (nD x), some (nD (2 ^ x.log2)), none, none] ah = some (.nx [some (nsD rows), some (nD n), some (nD x), some (nD (2 ^ x.log2)), some (nsD (rows.map fun r => if r.testBit x.log2 = true then r ^^^ x else r)), none], ah) := by
      refine asg_ev (frz_ev ((comp_ev (iAny_lst (l := rows.map nD) (var_ev rfl)) (by simp; omega)).trans ?_))
      rw [List.map_map]
      refine compGo_map fun r _ => ⟨[some (nsD rows), some (nD n), some (nD x), some (nD (2 ^ x.log2)), none, some (nD r)], rfl, rfl, ?_⟩
      have t := bit_test (δ := [some (nsD rows), some (nD n), some (nD x), some (nD (2 ^ x.log2)), none, some (nD r)]) (ah := ah) (a := eVar 5) (b := eVar 3) (n := r) (k := x.log2) rfl rfl
      show _ = some (nD (if r.testBit x.log2 = true then r ^^^ x else r), ah)
      cases e : r.testBit x.log2 with
      | true =>
        rw [e] at t
        exact (eif_t t).trans (xorn rfl rfl)
      | false =>
        rw [e] at t
        exact (eif_f t).trans rfl
    refine (seq_skip t).trans ((seq_nx a2).trans ((seq_nx a3).trans (ret_ev (frz_ev (sortR_n ?_)))))
    refine (add_lst (var_ev rfl) (frz_ev (lst_ev (cons_ev (var_ev rfl) (nil_ev _ _)) (by simp))) (by simp; omega)).trans ?_
    rw [List.map_append]
    rfl
def mD (p : Nat × Nat) : D := .tup [nD p.1, nD p.2]
theorem ev_moved {mv : List (Nat × Nat)} {n : Nat} {ah : AH} : f_moved_bits [nD n, .lst (mv.map mD)] ah = some (nD (moved mv n), ah) := by
  obtain ⟨δ', e, x, y, rfl⟩ := for_fold (g := tgT (tgCons (tgN 3) (tgCons (tgN 4) tgNil))) (b := sIf (tOf (eBin gNe (eBin gAnd (eVar 0) (eVar 3)) (eC (.int 0)))) (sAsg (tgN 2) (eBin gOr (eVar 2) (eVar 4))) sNil) (i := mD) (f := mv1 n) (J := fun f δ => ∃ x y, δ = [some (nD n), some (.lst (mv.map mD)), some (nD f), x, y]) (ah := ah) (l := mv) (s := 0) (δ := [some (nD n), some (.lst (mv.map mD)), some (nD 0), none, none]) ⟨_, _, rfl⟩ (by
    rintro m hm f δ ⟨x, y, rfl⟩
    have t := nen (δ := [some (nD n), some (.lst (mv.map mD)), some (nD f), some (nD m.1), some (nD m.2)]) (ah := ah) (k := 0) (andn (a := eVar 0) (b := eVar 3) (n := n) (k := m.1) rfl rfl) (cn 0)
    refine ⟨_, [some (nD n), some (.lst (mv.map mD)), some (nD (mv1 n f m)), some (nD m.1), some (nD m.2)], rfl, ?_, _, _, rfl⟩
    unfold mv1
    by_cases h0 : n &&& m.1 = 0
    · rw [decide_eq_true h0] at t
      rw [if_pos h0]
      exact nil_t' t
    · rw [decide_eq_false h0] at t
      rw [if_neg h0]
      exact (if_t t).trans (asg_ev (orn rfl rfl)))
  have hs : s_moved_bits [some (nD n), some (.lst (mv.map mD)), none, none, none] ah = some (.rt (nD (moved mv n)), ah) := by
    unfold s_moved_bits
    exact (seq_nx (asg_ev (cn 0))).trans ((seq_nx ((for_ev (iAny_lst (var_ev rfl))).trans e)).trans (ret_ev (var_ev rfl)))
  exact (fn_rt rfl hs).trans (by rw [trim_self])
end K19

set_option linter.all false
set_option maxRecDepth 100000
namespace MM
open PySem L2
theorem comp2_map {g g1 : D → DL → Option DL} {t t1 : MT} {mi1 : MA} {e : ME} {vs1 : List Nat} {δ : DL} {ah : AH} {α : Type} {i : α → D} {F : α → List D} : ∀ {l : List α}, (∀ x ∈ l, ∃ δ1 q, g (i x) δ = some δ1 ∧ t δ1 ah = some (true, ah) ∧ mi1 δ1 ah = some (q, ah) ∧ q.length ≤ 300 ∧ compGo g1 t1 e (wipeD δ1 vs1) q ah = some (F x, ah)) →
    comp2Go g t mi1 g1 t1 e vs1 δ (l.map i) ah = some (l.flatMap F, ah)
  | [], _ => rfl
  | x :: r, h => by
    obtain ⟨δ1, q, h1, h2, h3, h4, h5⟩ := h x (List.mem_cons_self ..)
    have ih := comp2_map (g := g) (t := t) (mi1 := mi1) (g1 := g1) (t1 := t1) (e := e) (vs1 := vs1) (δ := δ) (ah := ah) (i := i) (F := F) (l := r) fun y hy => h y (List.mem_cons_of_mem _ hy)
    simp only [List.map_cons, comp2Go, h1, h2, h3, Option.bind_some, if_true]
    rw [if_pos h4]
    simp only [h5, ih, Option.bind_some, Option.map_some, List.flatMap_cons]
theorem comp2_ev {mi mi1 : MA} {g g1 : D → DL → Option DL} {t t1 : MT} {e : ME} {vs vs1 : List Nat} {δ : DL} {ah ah1 : AH} {l : List D} (h : mi δ ah = some (l, ah1)) (hl : l.length ≤ 300) : fComp2 mi g t mi1 g1 t1 e vs vs1 δ ah = comp2Go g t mi1 g1 t1 e vs1 (wipeD δ vs) l ah1 := by
  unfold fComp2
  rw [h, Option.bind_some, if_pos hl]
end MM
namespace K19
open PySem L2 MM
def bxD (w h : Nat) : D := .tup [nD w, nD h]
def cD (p : Nat × Nat) : D := .tup [nD p.1, nD p.2]
def cells (w h : Nat) : List (Nat × Nat) := (List.range h).flatMap fun y => (List.range w).map fun x => (x, y)
theorem ev_bit_cells {w h : Nat} (W : Wh w h) (ah : AH) : f_bit_cells [bxD w h] ah = some (.lst ((cells w h).map cD), ah) := by
  have := W.w6; have := W.h6
  have hs : s_bit_cells [some (bxD w h), none, none, none, none] ah = some (.rt (.lst ((cells w h).map cD)), ah) := by
    unfold s_bit_cells
    have a0 : sAsg (tgT (tgCons (tgN 1) (tgCons (tgN 2) tgNil))) (eVar 0) [some (bxD w h), none, none, none, none] ah = some (.nx [some (bxD w h), some (nD w), some (nD h), none, none], ah) := rfl
    refine (seq_nx a0).trans (ret_ev (frz_ev ((comp2_ev (rng1 (n := h) (m := eVar 2) rfl (by omega)) (by simp; omega)).trans ?_)))
    rw [cells, List.map_flatMap]
    refine comp2_map (F := fun y => ((List.range w).map fun x => (x, y)).map cD) fun y hy => ⟨[some (bxD w h), some (nD w), some (nD h), some (nD y), none], _, rfl, rfl, rng1 (n := w) (m := eVar 1) rfl (by omega), by simp; omega, ?_⟩
    rw [List.map_map]
    exact compGo_map (f := cD ∘ fun x => (x, y)) fun x _ => ⟨[some (bxD w h), some (nD w), some (nD h), some (nD y), some (nD x)], rfl, rfl, rfl⟩
  exact (fn_rt rfl hs).trans (by rw [trim_self])
def cb (w h : Nat) (p : Nat × Nat) : Nat := w * h - 1 - w * p.2 - p.1
theorem cell_lt {w h : Nat} {p : Nat × Nat} (h1 : p.1 < w) (h2 : p.2 < h) : w * p.2 + p.1 < w * h := by
  have : w * p.2 + w ≤ w * h := by rw [← Nat.mul_succ]; exact Nat.mul_le_mul_left _ h2
  omega
theorem ev_cell_bit {w h : Nat} (W : Wh w h) {p : Nat × Nat} (h1 : p.1 < w) (h2 : p.2 < h) (ah : AH) : f_cell_bit [bxD w h, cD p] ah = some (nD (2 ^ cb w h p), ah) := by
  suffices H : ∀ k, cb w h p = k → f_cell_bit [bxD w h, cD p] ah = some (nD (2 ^ k), ah) from H _ rfl
  intro k hk
  have := W.w6; have := W.h6
  have lt := cell_lt h1 h2
  have wh : w * h ≤ 36 := Nat.mul_le_mul W.w6 W.h6
  have hs : s_cell_bit [some (bxD w h), some (cD p), none, none, none, none] ah = some (.rt (nD (2 ^ k)), ah) := by
    unfold s_cell_bit
    have a0 : sAsg (tgT (tgCons (tgN 2) (tgCons (tgN 3) tgNil))) (eVar 0) [some (bxD w h), some (cD p), none, none, none, none] ah = some (.nx [some (bxD w h), some (cD p), some (nD w), some (nD h), none, none], ah) := rfl
    have a1 : sAsg (tgT (tgCons (tgN 4) (tgCons (tgN 5) tgNil))) (eVar 1) [some (bxD w h), some (cD p), some (nD w), some (nD h), none, none] ah = some (.nx [some (bxD w h), some (cD p), some (nD w), some (nD h), some (nD p.1), some (nD p.2)], ah) := rfl
    have w64 : w < 2 ^ 64 := by omega
    generalize hδ : [some (bxD w h), some (cD p), some (nD w), some (nD h), some (nD p.1), some (nD p.2)] = δ at a1
    have v2 : eVar 2 δ ah = some (nD w, ah) := by rw [← hδ]; rfl
    have v3 : eVar 3 δ ah = some (nD h, ah) := by rw [← hδ]; rfl
    have v4 : eVar 4 δ ah = some (nD p.1, ah) := by rw [← hδ]; rfl
    have v5 : eVar 5 δ ah = some (nD p.2, ah) := by rw [← hδ]; rfl
    have e := shln (cn 1) (subn (subn (subn (muln v2 v3 (.inl w64)) (cn 1) (by omega)) (muln v2 v5 (.inl w64)) (by omega)) v4 (by omega)) (Nat.one_lt_two_pow (by decide)) (by omega)
    rw [Nat.one_mul, show w * h - 1 - w * p.2 - p.1 = k from hk] at e
    exact (seq_nx a0).trans ((seq_nx a1).trans (ret_ev e))
  have hf := fn_rt (n := 6) (k := 2) (s := s_cell_bit) (ds := [bxD w h, cD p]) (ah := ah) (ah2 := ah) (d := nD (2 ^ k)) rfl hs
  rw [trim_self] at hf
  exact hf
/-- a cell with its box, turned by one quarter -/
abbrev BC := Nat × Nat × Nat × Nat
def stC (c : BC) : BC := (c.2.1, c.1, c.2.1 - 1 - c.2.2.2, c.2.2.1)
def stCk : Nat → BC → BC
  | 0, c => c
  | n + 1, c => stCk n (stC c)
def tuC (m : Bool) (q w h : Nat) (p : Nat × Nat) : BC := stCk q (w, h, if m = true then w - 1 - p.1 else p.1, p.2)
def InB (c : BC) : Prop := c.2.2.1 < c.1 ∧ c.2.2.2 < c.2.1
theorem InB.st {c : BC} (h : InB c) : InB (stC c) := by
  obtain ⟨w, h', x, y⟩ := c
  obtain ⟨h1, h2⟩ := h
  constructor
  · show h' - 1 - y < h'
    have : y < h' := h2
    omega
  · exact h1
theorem InB.stk : ∀ (k : Nat) {c : BC}, InB c → InB (stCk k c)
  | 0, _, h => h
  | k + 1, _, h => InB.stk k (InB.st h)
theorem tuC_in {m : Bool} {q w h : Nat} {p : Nat × Nat} (h1 : p.1 < w) (h2 : p.2 < h) : InB (tuC m q w h p) := by
  refine InB.stk q ⟨?_, h2⟩
  show (if m = true then w - 1 - p.1 else p.1) < w
  split <;> omega
theorem stCk_box : ∀ {k : Nat} {c : BC}, (stCk k c).1 = (if k % 2 = 0 then c.1 else c.2.1) ∧ (stCk k c).2.1 = (if k % 2 = 0 then c.2.1 else c.1)
  | 0, c => ⟨rfl, rfl⟩
  | k + 1, c => by
    obtain ⟨h1, h2⟩ := stCk_box (k := k) (c := stC c)
    show (stCk k (stC c)).1 = _ ∧ (stCk k (stC c)).2.1 = _
    rw [h1, h2]
    rcases Nat.mod_two_eq_zero_or_one k with e | e
    · have : (k + 1) % 2 = 1 := by omega
      simp [e, this, stC]
    · have : (k + 1) % 2 = 0 := by omega
      simp [e, this, stC]
theorem tuC_ok {w h : Nat} {t : Bool × Nat} (ht : t ∈ allT (decide (w = h))) {p : Nat × Nat} (h1 : p.1 < w) (h2 : p.2 < h) : t.2 ≤ 3 ∧ (tuC t.1 t.2 w h p).2.2.1 < w ∧ (tuC t.1 t.2 w h p).2.2.2 < h := by
  obtain ⟨b1, b2⟩ := tuC_in (m := t.1) (q := t.2) h1 h2
  obtain ⟨e1, e2⟩ := stCk_box (k := t.2) (c := (w, h, if t.1 = true then w - 1 - p.1 else p.1, p.2))
  have e1 : (tuC t.1 t.2 w h p).1 = if t.2 % 2 = 0 then w else h := e1
  have e2 : (tuC t.1 t.2 w h p).2.1 = if t.2 % 2 = 0 then h else w := e2
  rw [e1] at b1
  rw [e2] at b2
  unfold allT at ht
  by_cases e : w = h
  · subst e
    rw [decide_eq_true rfl, if_pos rfl] at ht
    have : t.2 ≤ 3 := by
      simp only [List.mem_cons, List.not_mem_nil, or_false] at ht
      rcases ht with rfl | rfl | rfl | rfl | rfl | rfl | rfl | rfl <;> decide
    simp only [ite_self] at b1 b2
    exact ⟨this, b1, b2⟩
  · rw [decide_eq_false e, if_neg (by decide)] at ht
    have : t.2 ≤ 3 ∧ t.2 % 2 = 0 := by
      simp only [List.mem_cons, List.not_mem_nil, or_false] at ht
      rcases ht with rfl | rfl | rfl | rfl <;> decide
    rw [if_pos this.2] at b1 b2
    exact ⟨this.1, b1, b2⟩
theorem ev_turned_cell {w h : Nat} {m : Bool} {q : Nat} (hq : q ≤ 3) {p : Nat × Nat} (h1 : p.1 < w) (h2 : p.2 < h) (ah : AH) : f_turned_cell [bxD w h, cD p, .str (tz m q)] ah = some (cD ((tuC m q w h p).2.2.1, (tuC m q w h p).2.2.2), ah) := by
  have a0 : sAsg (tgT (tgCons (tgN 3) (tgCons (tgN 4) tgNil))) (eVar 0) [some (bxD w h), some (cD p), some (.str (tz m q)), none, none, none, none, none] ah = some (.nx [some (bxD w h), some (cD p), some (.str (tz m q)), some (nD w), some (nD h), none, none, none], ah) := rfl
  have a1 : sAsg (tgT (tgCons (tgN 5) (tgCons (tgN 6) tgNil))) (eVar 1) [some (bxD w h), some (cD p), some (.str (tz m q)), some (nD w), some (nD h), none, none, none] ah = some (.nx [some (bxD w h), some (cD p), some (.str (tz m q)), some (nD w), some (nD h), some (nD p.1), some (nD p.2), none], ah) := rfl
  have t : tOf (eCall f_exchanges (aCons (eVar 2) aNil)) [some (bxD w h), some (cD p), some (.str (tz m q)), some (nD w), some (nD h), some (nD p.1), some (nD p.2), none] ah = some (m, ah) := tof_ev ((call_ev (cons_ev (var_ev rfl) (nil_ev _ _))).trans (ev_exchanges m q ah))
  have a2 : sIf (tOf (eCall f_exchanges (aCons (eVar 2) aNil))) (sAsg (tgN 5) (eBin gSub (eBin gSub (eVar 3) (eC (.int 1))) (eVar 5))) sNil [some (bxD w h), some (cD p), some (.str (tz m q)), some (nD w), some (nD h), some (nD p.1), some (nD p.2), none] ah = some (.nx [some (bxD w h), some (cD p), some (.str (tz m q)), some (nD w), some (nD h), some (nD (if m = true then w - 1 - p.1 else p.1)), some (nD p.2), none], ah) := by
    cases m with
    | true => exact (if_t t).trans (asg_ev (subn (subn (n := w) rfl (cn 1) (by omega)) (k := p.1) rfl (by omega)))
    | false => exact nil_t' t
  generalize hx : (if m = true then w - 1 - p.1 else p.1) = x at a2
  have inb : InB (w, h, x, p.2) := ⟨by show x < w; rw [← hx]; split <;> omega, h2⟩
  have rg : iRng1M (eCall f_quarters (aCons (eVar 2) aNil)) [some (bxD w h), some (cD p), some (.str (tz m q)), some (nD w), some (nD h), some (nD x), some (nD p.2), none] ah = some ((List.range q).map nD, ah) := rng1 (n := q) ((call_ev (cons_ev (var_ev rfl) (nil_ev _ _))).trans (ev_quarters m hq ah)) (by omega)
  have gen : ∀ (l : List Nat) (c : BC), l.foldl (fun c _ => stC c) c = stCk l.length c := fun l => by
    induction l with
    | nil => intro c; rfl
    | cons a r ih => intro c; exact ih _
  obtain ⟨δ', e, _, y, rfl⟩ := for_fold (g := tgN 7) (b := sSeq (sPar 5 6 (eBin gSub (eBin gSub (eVar 4) (eC (.int 1))) (eVar 6)) (eVar 5)) (sPar 3 4 (eVar 4) (eVar 3))) (i := nD) (f := fun c _ => stC c) (J := fun c δ => InB c ∧ ∃ y, δ = [some (bxD w h), some (cD p), some (.str (tz m q)), some (nD c.1), some (nD c.2.1), some (nD c.2.2.1), some (nD c.2.2.2), y]) (ah := ah) (l := List.range q) (s := (w, h, x, p.2)) (δ := [some (bxD w h), some (cD p), some (.str (tz m q)), some (nD w), some (nD h), some (nD x), some (nD p.2), none]) ⟨inb, _, rfl⟩ (by
    rintro r hr c δ ⟨ib, y, rfl⟩
    have b2 := ib.2
    exact ⟨_, [some (bxD w h), some (cD p), some (.str (tz m q)), some (nD (stC c).1), some (nD (stC c).2.1), some (nD (stC c).2.2.1), some (nD (stC c).2.2.2), some (nD r)], rfl, (seq_nx (par_ev (subn (subn (n := c.2.1) rfl (cn 1) (by omega)) (k := c.2.2.2) rfl (by omega)) (d := nD (c.2.1 - 1 - c.2.2.2)) (e := nD c.2.2.1) rfl)).trans (par_ev (d := nD c.2.1) (e := nD c.1) rfl rfl), ib.st, _, rfl⟩)
  rw [gen, List.length_range] at e
  have hs : s_turned_cell [some (bxD w h), some (cD p), some (.str (tz m q)), none, none, none, none, none] ah = some (.rt (cD ((tuC m q w h p).2.2.1, (tuC m q w h p).2.2.2)), ah) := by
    unfold s_turned_cell
    refine (seq_nx a0).trans ((seq_nx a1).trans ((seq_nx a2).trans ((seq_nx ((for_ev rg).trans e)).trans ?_)))
    unfold tuC
    rw [hx]
    rfl
  exact (fn_rt rfl hs).trans (by rw [trim_self])
def mvs (w h : Nat) (t : Bool × Nat) : List (Nat × Nat) := (cells w h).map fun p => (2 ^ cb w h p, 2 ^ cb w h ((tuC t.1 t.2 w h p).2.2.1, (tuC t.1 t.2 w h p).2.2.2))
theorem mem_cells {w h : Nat} {p : Nat × Nat} : p ∈ cells w h ↔ p.1 < w ∧ p.2 < h := by
  unfold cells
  simp only [List.mem_flatMap, List.mem_map, List.mem_range]
  constructor
  · rintro ⟨y, hy, x, hx, rfl⟩
    exact ⟨hx, hy⟩
  · rintro ⟨h1, h2⟩
    exact ⟨p.2, h2, p.1, h1, rfl⟩
theorem cells_len (w h : Nat) : (cells w h).length = h * w := by
  unfold cells
  simp [List.length_flatMap, List.map_const']
theorem ev_moves_of {w h : Nat} (W : Wh w h) {t : Bool × Nat} (ht : t ∈ allT (decide (w = h))) (ah : AH) : f_moves_of [bxD w h, .str (tz t.1 t.2)] ah = some (.lst ((mvs w h t).map mD), ah) := by
  have wh : h * w ≤ 36 := Nat.mul_le_mul W.h6 W.w6
  have hs : s_moves_of [some (bxD w h), some (.str (tz t.1 t.2)), none] ah = some (.rt (.lst ((mvs w h t).map mD)), ah) := by
    unfold s_moves_of
    refine ret_ev (frz_ev ((comp_ev (iAny_lst ((call_ev (cons_ev (var_ev rfl) (nil_ev _ _))).trans (ev_bit_cells W ah))) (by rw [List.length_map, cells_len]; omega)).trans ?_))
    rw [mvs, List.map_map]
    refine compGo_map fun p hp => ⟨[some (bxD w h), some (.str (tz t.1 t.2)), some (cD p)], rfl, rfl, ?_⟩
    obtain ⟨h1, h2⟩ := mem_cells.mp hp
    obtain ⟨q3, h3, h4⟩ := tuC_ok ht h1 h2
    exact tup_ev (cons_ev ((call_ev (cons_ev (var_ev rfl) (cons_ev (var_ev rfl) (nil_ev _ _)))).trans (ev_cell_bit W h1 h2 ah)) (cons_ev ((call_ev (cons_ev (var_ev rfl) (cons_ev ((call_ev (cons_ev (var_ev rfl) (cons_ev (var_ev rfl) (cons_ev (var_ev rfl) (nil_ev _ _))))).trans (ev_turned_cell q3 h1 h2 ah)) (nil_ev _ _)))).trans (ev_cell_bit W h3 h4 ah)) (nil_ev _ _))) (by simp)
  exact (fn_rt rfl hs).trans (by rw [trim_self])
theorem ev_turnings_of (w h : Nat) (ah : AH) : f_turnings_of [bxD w h] ah = some (.lst ((allT (decide (w = h))).map fun t => .str (tz t.1 t.2)), ah) := by
  have a0 : sAsg (tgT (tgCons (tgN 1) (tgCons (tgN 2) tgNil))) (eVar 0) [some (bxD w h), none, none, none] ah = some (.nx [some (bxD w h), some (nD w), some (nD h), none], ah) := rfl
  have t := eqn (δ := [some (bxD w h), some (nD w), some (nD h), none]) (ah := ah) (a := eVar 1) (b := eVar 2) (n := w) (k := h) rfl rfl
  have hs : s_turnings_of [some (bxD w h), none, none, none] ah = some (.rt (.lst ((allT (decide (w = h))).map fun t => .str (tz t.1 t.2))), ah) := by
    unfold s_turnings_of
    refine (seq_nx a0).trans ?_
    by_cases e : w = h
    · rw [decide_eq_true e] at t ⊢
      refine seq_take t (ret_ev (frz_ev (f1_ev (x := k_TURNINGS) rfl ?_)))
      rfl
    · rw [decide_eq_false e] at t ⊢
      refine (seq_skip t).trans (ret_ev (frz_ev (f1_ev (x := .lst ((["r0", "r2", "m0", "m2"] : List Str).map .str)) (frz_ev ((comp_ev (l := l_TURNINGS.map .str) (iAny_tup rfl) (by decide)).trans ?_)) rfl)))
      have et : l_TURNINGS = [(false, 0), (false, 1), (false, 2), (false, 3), (true, 0), (true, 1), (true, 2), (true, 3)].map fun t => tz t.1 t.2 := by decide +kernel
      rw [et, List.map_map]
      refine (compGo_filter (p := fun t => decide (t.2 % 2 = 0)) (f := fun t => D.str (tz t.1 t.2)) fun t ht => ⟨[some (bxD w h), some (nD w), some (nD h), some (.str (tz t.1 t.2))], rfl, ?_, fun _ => rfl⟩).trans ?_
      · have q3 : t.2 ≤ 3 := by
          simp only [List.mem_cons, List.not_mem_nil, or_false] at ht
          rcases ht with rfl | rfl | rfl | rfl | rfl | rfl | rfl | rfl <;> decide
        exact eqn (mod_ev ((call_ev (cons_ev (var_ev rfl) (nil_ev _ _))).trans (ev_quarters t.1 q3 ah)) (b := eC (.int 2)) (j := 2) rfl (by decide)) (cn 0)
      · rfl
  exact (fn_rt rfl hs).trans (by rw [trim_self])
def ways (w h : Nat) : List (List (Nat × Nat)) := (allT (decide (w = h))).map (mvs w h)
def wD (m : List (Nat × Nat)) : D := .lst (m.map mD)
theorem ev_all_moves {w h : Nat} (W : Wh w h) (ah : AH) : f_all_moves [bxD w h] ah = some (.lst ((ways w h).map wD), ah) := by
  have hs : s_all_moves [some (bxD w h), none] ah = some (.rt (.lst ((ways w h).map wD)), ah) := by
    unfold s_all_moves
    refine ret_ev (frz_ev ((comp_ev (iAny_lst ((call_ev (cons_ev (var_ev rfl) (nil_ev _ _))).trans (ev_turnings_of w h ah))) (by have := (allT_len (decide (w = h))).2; simp; omega)).trans ?_))
    rw [ways, List.map_map]
    exact compGo_map fun t ht => ⟨[some (bxD w h), some (.str (tz t.1 t.2))], rfl, rfl, (call_ev (cons_ev (var_ev rfl) (cons_ev (var_ev rfl) (nil_ev _ _)))).trans (ev_moves_of W ht ah)⟩
  exact (fn_rt rfl hs).trans (by rw [trim_self])
end K19

set_option linter.all false
set_option maxRecDepth 100000
namespace K19
open PySem L2 MM
open LM (mv1 moved Pl)
/-! ### a face's number -/
def bitsN (w h : Nat) (c : Cell) : Nat := (List.range h).foldl (fun n y => (List.range w).foldl (fun n x => 2 * n + (c x y).toNat) n) 0
theorem ev_bits_of {w h : Nat} {c : Cell} (ah : AH) : f_bits_of [fD w h c] ah = some (nD (bitsN w h c), ah) := by
  obtain ⟨δ', e, a, b, rfl⟩ := for_fold (g := tgN 2) (b := sFor (iAny (eVar 2)) (tgN 3) (sAsg (tgN 1) (eBin gAdd (eBin gMul (eC (.int 2)) (eVar 1)) (e1 gInt (eBin gEq (eVar 3) (eC k_UP)))))) (i := fun y => D.str (rowS w fun x => c x y)) (f := fun n y => (List.range w).foldl (fun n x => 2 * n + (c x y).toNat) n) (J := fun n δ => ∃ a b, δ = [some (fD w h c), some (nD n), a, b]) (ah := ah) (l := List.range h) (s := 0) (δ := [some (fD w h c), some (nD 0), none, none]) ⟨_, _, rfl⟩ (by
    rintro y hy n δ ⟨a, b, rfl⟩
    obtain ⟨δ2, e2, b', rfl⟩ := for_fold (g := tgN 3) (b := sAsg (tgN 1) (eBin gAdd (eBin gMul (eC (.int 2)) (eVar 1)) (e1 gInt (eBin gEq (eVar 3) (eC k_UP))))) (i := fun x => D.str ⟨#[sg (c x y)]⟩) (f := fun n x => 2 * n + (c x y).toNat) (J := fun n δ => ∃ b, δ = [some (fD w h c), some (nD n), some (.str (rowS w fun x => c x y)), b]) (ah := ah) (l := List.range w) (s := n) (δ := [some (fD w h c), some (nD n), some (.str (rowS w fun x => c x y)), b]) ⟨_, rfl⟩ (by
      rintro x hx m δ ⟨b, rfl⟩
      refine ⟨_, [some (fD w h c), some (nD (2 * m + (c x y).toNat)), some (.str (rowS w fun x => c x y)), some (.str ⟨#[sg (c x y)]⟩)], rfl, asg_ev (addn (muln (cn 2) (n := 2) (k := m) rfl (.inl (by decide))) ?_), _, rfl⟩
      refine e1_ev (x := .bl (c x y)) ((eq_str rfl rfl).trans (by rw [sg_o])) ?_
      cases c x y <;> rfl)
    refine ⟨_, [some (fD w h c), some (nD ((List.range w).foldl (fun n x => 2 * n + (c x y).toNat) n)), some (.str (rowS w fun x => c x y)), b'], rfl, (for_ev (iAny_str (z := rowS w fun x => c x y) rfl)).trans ?_, _, _, rfl⟩
    rw [signs_row]
    exact e2)
  have hs : s_bits_of [some (fD w h c), none, none, none] ah = some (.rt (nD (bitsN w h c)), ah) := by
    unfold s_bits_of
    exact (seq_nx (asg_ev (cn 0))).trans ((seq_nx ((for_ev (iAny_tup rfl)).trans e)).trans (ret_ev (var_ev rfl)))
  exact (fn_rt rfl hs).trans (by rw [trim_self])
theorem bitsN_go {w : Nat} {c : Cell} {y : Nat} : ∀ (l : List Nat) (n : Nat), l.foldl (fun n x => 2 * n + (c x y).toNat) n = LM.valB (l.map fun x => c x y) n
  | [], _ => rfl
  | _ :: r, _ => bitsN_go (w := w) (c := c) (y := y) r _
theorem bitsN_eq (w h : Nat) (c : Cell) : bitsN w h c = LM.valB ((List.range h).flatMap fun y => (List.range w).map fun x => c x y) 0 := by
  have gen : ∀ (l : List Nat) (n : Nat), l.foldl (fun n y => (List.range w).foldl (fun n x => 2 * n + (c x y).toNat) n) n = LM.valB (l.flatMap fun y => (List.range w).map fun x => c x y) n := fun l => by
    induction l with
    | nil => intro n; rfl
    | cons a r ih =>
      intro n
      rw [List.flatMap_cons]
      unfold LM.valB at ih ⊢
      rw [List.foldl_append, ← ih]
      show List.foldl _ (List.foldl _ n (List.range w)) r = _
      rw [bitsN_go (w := w)]
      rfl
  exact gen _ _
theorem bitsN_lt (w h : Nat) (c : Cell) : bitsN w h c < 2 ^ (w * h) := by
  rw [bitsN_eq]
  have := LM.valB_lt (l := (List.range h).flatMap fun y => (List.range w).map fun x => c x y) (s := 0) (k := 0) (by decide)
  have e : ((List.range h).flatMap fun y => (List.range w).map fun x => c x y).length = h * w := by simp [List.length_flatMap, List.map_const']
  rw [e, Nat.zero_add, Nat.mul_comm] at this
  exact this
/-! ### the face of a number -/
def cellN (w h n : Nat) : Cell := fun x y => n.testBit (w * h - 1 - w * y - x)
theorem tx_sl {m a b : ME} {δ : DL} {ah ah1 ah2 ah3 : AH} {l : List Nat} {i j : Nat} (h : m δ ah = some (.str (tx l), ah1)) (ha : a δ ah1 = some (.int (i : Nat), ah2)) (hb : b δ ah2 = some (.int (j : Nat), ah3)) (hl : l.length ≤ 1000) (hi : i ≤ l.length) (hj : j ≤ l.length) : eSl m (oSome a) (oSome b) δ ah = some (.str (tx ((l.drop i).take (j - i))), ah3) := by
  have e1 : eSlice m (oSome a) (oSome b) δ ah = some (.str (tx ((l.drop i).take (j - i))), ah3) := by
    simp only [eSlice, oSome, h, ha, hb, Option.bind_some, Option.map_some]
    rw [if_pos (by rw [tx_len]; omega), cut_tx]
    unfold cutL
    rw [HT.sIx_nat, HT.sIx_nat, Nat.min_eq_left hi, Nat.min_eq_left hj]
  unfold eSl orE
  rw [e1]
def sgL (n k : Nat) : List Nat := (List.range k).map fun j => sg (n.testBit (k - 1 - j))
theorem sgL_succ (n k : Nat) : sgL n (k + 1) = sg (n.testBit k) :: sgL n k := by
  unfold sgL
  rw [List.range_succ_eq_map, List.map_cons, List.map_map]
  show sg (n.testBit k) :: _ = sg (n.testBit k) :: _
  refine congrArg _ (List.map_congr_left fun j _ => ?_)
  show sg (n.testBit (k + 1 - 1 - (j + 1))) = sg (n.testBit (k - 1 - j))
  congr 2
  omega
theorem sgL_len (n k : Nat) : (sgL n k).length = k := by simp [sgL]
def ffD (w h : Nat) (d1 : D) (z : List Nat) (x y : Option D) : DL := [some (bxD w h), some d1, some (nD w), some (nD h), some (.str (tx z)), x, y]
theorem range_cut {α : Type} (f : Nat → α) {N M w : Nat} (h : M + w ≤ N) : (((List.range N).map f).drop M).take w = (List.range w).map fun x => f (M + x) := by
  refine List.ext_getElem (by simp; omega) fun i h1 h2 => ?_
  simp only [List.getElem_take, List.getElem_drop, List.getElem_map, List.getElem_range]
theorem ff_row {w h n y : Nat} {d1 : D} {x : Option D} {ah : AH} (w64 : w < 2 ^ 64) (wh : w * h ≤ 36) (hy : y < h) : eSl (eVar 4) (oSome (eBin gMul (eVar 2) (eVar 6))) (oSome (eBin gAdd (eBin gMul (eVar 2) (eVar 6)) (eVar 2))) (ffD w h d1 (sgL n (w * h)) x (some (nD y))) ah = some (.str (rowS w fun x => cellN w h n x y), ah) := by
  have lt : w * y + w ≤ w * h := by rw [← Nat.mul_succ]; exact Nat.mul_le_mul_left _ hy
  generalize eN : w * h = N at *
  have v4 : eVar 4 (ffD w h d1 (sgL n N) x (some (nD y))) ah = some (.str (tx (sgL n N)), ah) := rfl
  have v2 : eVar 2 (ffD w h d1 (sgL n N) x (some (nD y))) ah = some (nD w, ah) := rfl
  have v6 : eVar 6 (ffD w h d1 (sgL n N) x (some (nD y))) ah = some (nD y, ah) := rfl
  have m1 := muln v2 v6 (.inl w64)
  have m2 := addn m1 v2
  generalize eM : w * y = M at *
  have ln := sgL_len n N
  have e0 := tx_sl (i := M) (j := M + w) v4 m1 m2 (by omega) (by omega) (by omega)
  have key : ((sgL n N).drop M).take (M + w - M) = (List.range w).map fun x => sg (cellN w h n x y) := by
    unfold sgL
    rw [Nat.add_sub_cancel_left, range_cut _ (by omega)]
    refine List.map_congr_left fun x hx => ?_
    have ek : N - 1 - (M + x) = w * h - 1 - w * y - x := by omega
    exact congrArg (fun k => sg (n.testBit k)) ek
  rw [key] at e0
  exact e0
theorem ev_face_from {w h : Nat} (W : Wh w h) (n : Nat) (ah : AH) : f_face_from [bxD w h, nD n] ah = some (fD w h (cellN w h n), ah) := by
  have w6 := W.w6; have h6 := W.h6
  have wh : w * h ≤ 36 := Nat.mul_le_mul W.w6 W.h6
  have w64 : w < 2 ^ 64 := by omega
  have a0 : sAsg (tgT (tgCons (tgN 2) (tgCons (tgN 3) tgNil))) (eVar 0) [some (bxD w h), some (nD n), none, none, none, none, none] ah = some (.nx [some (bxD w h), some (nD n), some (nD w), some (nD h), none, none, none], ah) := rfl
  have a1 : sAsg (tgN 4) (eC (.str "")) [some (bxD w h), some (nD n), some (nD w), some (nD h), none, none, none] ah = some (.nx (ffD w h (nD (n / 2 ^ 0)) (sgL n 0) none none), ah) := by
    rw [Nat.pow_zero, Nat.div_one]
    rfl
  have step : ∀ (k : Nat) (d : D), k < 36 → sSeq (sAsg (tgN 4) (eBin gAdd (eIf (tOf (eBin gEq (eBin gAnd (eVar 1) (eC (.int 1))) (eC (.int 1)))) (eC k_UP) (eC k_FLAT)) (eVar 4))) (sAsg (tgN 1) (eBin gShr (eVar 1) (eC (.int 1)))) (ffD w h (nD (n / 2 ^ k)) (sgL n k) (some d) none) ah = some (.nx (ffD w h (nD (n / 2 ^ (k + 1))) (sgL n (k + 1)) (some d) none), ah) := fun k d hk => by
    have e2 : n / 2 ^ (k + 1) = n / 2 ^ k / 2 ^ 1 := by rw [Nat.pow_one, Nat.div_div_eq_div_mul, ← Nat.pow_succ]
    have b1 : tOf (eBin gEq (eBin gAnd (eVar 1) (eC (.int 1))) (eC (.int 1))) (ffD w h (nD (n / 2 ^ k)) (sgL n k) (some d) none) ah = some (n.testBit k, ah) := by
      generalize eq : n / 2 ^ k = m
      refine (eqn (andn (a := eVar 1) (n := m) rfl (cn 1)) (cn 1)).trans ?_
      rw [Nat.testBit_eq_decide_div_mod_eq, Nat.and_one_is_mod, eq]
    rw [e2]
    generalize n / 2 ^ k = m at *
    have u : eIf (tOf (eBin gEq (eBin gAnd (eVar 1) (eC (.int 1))) (eC (.int 1)))) (eC k_UP) (eC k_FLAT) (ffD w h (nD m) (sgL n k) (some d) none) ah = some (.str (tx [sg (n.testBit k)]), ah) := by
      cases eb : n.testBit k with
      | true => rw [eb] at b1; exact (eif_t b1).trans rfl
      | false => rw [eb] at b1; exact (eif_f b1).trans rfl
    have ln := sgL_len n k
    have s1 := asg_ev (i := 4) (tx_add u (b := eVar 4) (m := sgL n k) rfl (by simp [ln]; omega))
    have e3 : [sg (n.testBit k)] ++ sgL n k = sgL n (k + 1) := (sgL_succ n k).symm
    rw [e3] at s1
    refine (seq_nx s1).trans (asg_ev (shrn (a := eVar 1) (n := m) rfl (cn 1)))
  obtain ⟨δ', H', e, eH, x, eδ⟩ := forGo_inv (g := tgN 5) (b := sSeq (sAsg (tgN 4) (eBin gAdd (eIf (tOf (eBin gEq (eBin gAnd (eVar 1) (eC (.int 1))) (eC (.int 1)))) (eC k_UP) (eC k_FLAT)) (eVar 4))) (sAsg (tgN 1) (eBin gShr (eVar 1) (eC (.int 1))))) (I := fun dn δ H => H = ah ∧ ∃ x, δ = ffD w h (nD (n / 2 ^ dn.length)) (sgL n dn.length) x none) (l := (List.range (w * h)).map nD) (done := []) (δ := ffD w h (nD (n / 2 ^ 0)) (sgL n 0) none none) (ah := ah) ⟨rfl, none, rfl⟩ (by
    rintro dn d r δ H ed ⟨rfl, x, rfl⟩
    have ln : dn.length < w * h := by
      have := congrArg List.length ed
      simp at this
      omega
    exact ⟨_, _, H, rfl, step dn.length d (by omega), rfl, some d, by rw [List.length_append]; rfl⟩)
  rw [eH, eδ] at e
  have ln : ([] ++ (List.range (w * h)).map nD).length = w * h := by simp
  rw [ln] at e
  have rg : iRng1M (eBin gMul (eVar 2) (eVar 3)) (ffD w h (nD (n / 2 ^ 0)) (sgL n 0) none none) ah = some ((List.range (w * h)).map nD, ah) := rng1 (n := w * h) (muln (n := w) (k := h) rfl rfl (.inl w64)) (by omega)
  have fin : sRet (e1 gTuple (eFrz (fComp (iRng1M (eVar 3)) (tgN 6) tYesM (eSl (eVar 4) (oSome (eBin gMul (eVar 2) (eVar 6))) (oSome (eBin gAdd (eBin gMul (eVar 2) (eVar 6)) (eVar 2)))) [6]))) (ffD w h (nD (n / 2 ^ (w * h))) (sgL n (w * h)) x none) ah = some (.rt (fD w h (cellN w h n)), ah) := by
    generalize nD (n / 2 ^ (w * h)) = d1
    refine ret_ev (e1_ev (x := .lst ((List.range h).map fun y => .str (rowS w fun x => cellN w h n x y))) (frz_ev ((comp_ev (rng1 (n := h) rfl (by omega)) (by simp; omega)).trans ?_)) rfl)
    exact compGo_map fun y hy => ⟨ffD w h d1 (sgL n (w * h)) x (some (nD y)), rfl, rfl, ff_row w64 wh (List.mem_range.mp hy)⟩
  have hs : s_face_from [some (bxD w h), some (nD n), none, none, none, none, none] ah = some (.rt (fD w h (cellN w h n)), ah) := by
    unfold s_face_from
    exact (seq_nx a0).trans ((seq_nx a1).trans ((seq_nx ((for_ev rg).trans e)).trans fin))
  have hf := fn_rt (n := 7) (k := 2) (s := s_face_from) (ds := [bxD w h, nD n]) (ah := ah) (ah2 := ah) (d := fD w h (cellN w h n)) rfl hs
  rw [trim_self] at hf
  exact hf
end K19

set_option linter.all false
set_option maxRecDepth 100000
namespace MM
open PySem L2
theorem for_foldH {α β : Type} {g : D → DL → Option DL} {b : MS} {i : α → D} {f : β → α → β} {J : β → DL → AH → Prop} : ∀ {l : List α} {s : β} {δ : DL} {ah : AH}, J s δ ah → (∀ x ∈ l, ∀ s δ ah, J s δ ah → ∃ δ1 δ2 ah2, g (i x) δ = some δ1 ∧ b δ1 ah = some (.nx δ2, ah2) ∧ J (f s x) δ2 ah2) →
    ∃ δ' ah', forGo g b (l.map i) δ ah = some (.nx δ', ah') ∧ J (l.foldl f s) δ' ah'
  | [], s, δ, ah, h, _ => ⟨δ, ah, rfl, h⟩
  | x :: r, s, δ, ah, h, st => by
    obtain ⟨δ1, δ2, ah2, h1, h2, h3⟩ := st x (List.mem_cons_self ..) s δ ah h
    obtain ⟨δ', ah', k1, k2⟩ := for_foldH (i := i) (l := r) h3 fun y hy => st y (List.mem_cons_of_mem _ hy)
    exact ⟨δ', ah', by simp only [List.map_cons, forGo, h1, h2, k1, Option.bind_some], k2⟩
theorem for_foldI {α β : Type} {g : D → DL → Option DL} {b : MS} {i : α → D} {f : β → α → β} {N : Nat} {J : Nat → β → DL → AH → Prop} : ∀ {l : List α} {k : Nat} {s : β} {δ : DL} {ah : AH}, k + l.length = N → J k s δ ah → (∀ x ∈ l, ∀ k s δ ah, k < N → J k s δ ah → ∃ δ1 δ2 ah2, g (i x) δ = some δ1 ∧ b δ1 ah = some (.nx δ2, ah2) ∧ J (k + 1) (f s x) δ2 ah2) →
    ∃ δ' ah', forGo g b (l.map i) δ ah = some (.nx δ', ah') ∧ J N (l.foldl f s) δ' ah'
  | [], k, s, δ, ah, hk, h, _ => ⟨δ, ah, rfl, by rw [← hk]; exact h⟩
  | x :: r, k, s, δ, ah, hk, h, st => by
    rw [List.length_cons] at hk
    obtain ⟨δ1, δ2, ah2, h1, h2, h3⟩ := st x (List.mem_cons_self ..) k s δ ah (by omega) h
    obtain ⟨δ', ah', k1, k2⟩ := for_foldI (i := i) (l := r) (by omega) h3 fun y hy => st y (List.mem_cons_of_mem _ hy)
    exact ⟨δ', ah', by simp only [List.map_cons, forGo, h1, h2, k1, Option.bind_some], k2⟩
theorem foldl_app {α β : Type} (f : α → β) : ∀ (l : List α) (acc : List β), l.foldl (fun acc x => acc ++ [f x]) acc = acc ++ l.map f
  | [], acc => by simp
  | x :: r, acc => by
    show r.foldl _ (acc ++ [f x]) = _
    rw [foldl_app f r]
    simp
end MM
namespace K19
open PySem L2 MM
open LM (mv1 moved Pl)
theorem ev_joinP {B n : Nat} {L : List Nat} (h : Pl B L) (hn : n < 2 ^ B) (hB : B ≤ 60) (ah : AH) : f_joined_rows [nsD L, nD n] ah = some (nsD (LM.join L n), ah) :=
  ev_joined (Ps.of h (by omega)) (Nat.lt_of_lt_of_le (LM.sift_lt h.lt hn) (Nat.pow_le_pow_right (by decide) (by omega))) (by have := h.len; omega)
theorem ev_siftP {B n : Nat} {L : List Nat} (h : Pl B L) (hB : B ≤ 60) (ah : AH) : f_sifted [nsD L, nD n] ah = some (nD (LM.sift L n), ah) := ev_sifted (Ps.of h (by omega))
theorem ev_topP {B n : Nat} (h0 : 0 < n) (hn : n < 2 ^ B) (hB : B ≤ 60) (ah : AH) : f_top_bit [nD n] ah = some (nD (2 ^ n.log2), ah) := ev_top_bit h0 (Nat.lt_of_lt_of_le hn (Nat.pow_le_pow_right (by decide) (by omega)))
theorem ev_plain {B : Nat} {ns : List Nat} (h : ∀ n ∈ ns, n < 2 ^ B) (hB : B ≤ 60) (ah : AH) : f_plain_rows [nsD ns] ah = some (nsD (LM.plain ns), ah) := by
  obtain ⟨δ', e, -, x, rfl⟩ := for_fold (g := tgN 2) (b := sAsg (tgN 1) (eCall f_joined_rows (aCons (eVar 1) (aCons (eVar 2) aNil)))) (i := nD) (f := LM.join) (J := fun L δ => Pl B L ∧ ∃ x, δ = [some (nsD ns), some (nsD L), x]) (ah := ah) (l := ns) (s := []) (δ := [some (nsD ns), some (nsD []), none]) ⟨Pl.nil, _, rfl⟩ (by
    rintro n hn L δ ⟨p, x, rfl⟩
    exact ⟨_, [some (nsD ns), some (nsD (LM.join L n)), some (nD n)], rfl, asg_ev ((call_ev (cons_ev (var_ev rfl) (cons_ev (var_ev rfl) (nil_ev _ _)))).trans (ev_joinP p (h n hn) hB ah)), p.join (h n hn), _, rfl⟩)
  have hs : s_plain_rows [some (nsD ns), none, none] ah = some (.rt (nsD (LM.plain ns)), ah) := by
    unfold s_plain_rows
    exact (seq_nx (asg_ev (d := nsD []) rfl)).trans ((seq_nx ((for_ev (iAny_lst (l := ns.map nD) (var_ev rfl))).trans e)).trans (ret_ev (var_ev rfl)))
  exact (fn_rt rfl hs).trans (by rw [trim_self])
/-! ### joining along walks -/
def jlS (w h : Nat) (ns L : List Nat) (ws : List (List (Nat × Nat))) (a b : Option D) : DL := [some (bxD w h), some (nsD ns), some (nsD L), some (.lst (ws.map wD)), a, b]
theorem join_loops {w h B : Nat} {M : ME} {f : Nat → List (Nat × Nat) → Nat} {ns : List Nat} {ws : List (List (Nat × Nat))} {ah : AH} (hM : ∀ n m L, M (jlS w h ns L ws (some (nD n)) (some (wD m))) ah = some (nD (f n m), ah)) (hf : ∀ n ∈ ns, ∀ m ∈ ws, f n m < 2 ^ B) (hB : B ≤ 60) :
    ∃ a b, forGo (tgN 4) (sFor (iAny (eVar 3)) (tgN 5) (sAsg (tgN 2) (eCall f_joined_rows (aCons (eVar 2) (aCons M aNil))))) (ns.map nD) (jlS w h ns [] ws none none) ah = some (.nx (jlS w h ns (ns.foldl (LM.joinAll f ws) []) ws a b), ah) ∧ Pl B (ns.foldl (LM.joinAll f ws) []) := by
  obtain ⟨δ', e, p, a, b, rfl⟩ := for_fold (g := tgN 4) (b := sFor (iAny (eVar 3)) (tgN 5) (sAsg (tgN 2) (eCall f_joined_rows (aCons (eVar 2) (aCons M aNil))))) (i := nD) (f := LM.joinAll f ws) (J := fun L δ => Pl B L ∧ ∃ a b, δ = jlS w h ns L ws a b) (ah := ah) (l := ns) (s := []) (δ := jlS w h ns [] ws none none) ⟨Pl.nil, _, _, rfl⟩ (by
    rintro n hn L δ ⟨p, a, b, rfl⟩
    obtain ⟨δ2, e2, p2, b2, rfl⟩ := for_fold (g := tgN 5) (b := sAsg (tgN 2) (eCall f_joined_rows (aCons (eVar 2) (aCons M aNil)))) (i := wD) (f := fun L m => LM.join L (f n m)) (J := fun L δ => Pl B L ∧ ∃ b, δ = jlS w h ns L ws (some (nD n)) b) (ah := ah) (l := ws) (s := L) (δ := jlS w h ns L ws (some (nD n)) b) ⟨p, _, rfl⟩ (by
      rintro m hm L δ ⟨p, b, rfl⟩
      exact ⟨_, jlS w h ns (LM.join L (f n m)) ws (some (nD n)) (some (wD m)), rfl, asg_ev ((call_ev (cons_ev (var_ev rfl) (cons_ev (hM n m L) (nil_ev _ _)))).trans (ev_joinP p (hf n hn m hm) hB ah)), p.join (hf n hn m hm), _, rfl⟩)
    exact ⟨_, _, rfl, (for_ev (iAny_lst (l := ws.map wD) (var_ev rfl))).trans e2, p2, _, _, rfl⟩)
  exact ⟨a, b, e, p⟩
theorem cb_lt {w h : Nat} {p : Nat × Nat} (h1 : p.1 < w) (h2 : p.2 < h) : cb w h p < w * h := by
  have := cell_lt h1 h2
  unfold cb
  omega
theorem mvs_lt {w h : Nat} {t : Bool × Nat} (ht : t ∈ allT (decide (w = h))) : ∀ m ∈ mvs w h t, m.2 < 2 ^ (w * h) := fun m hm => by
  obtain ⟨p, hp, rfl⟩ := List.mem_map.mp hm
  obtain ⟨h1, h2⟩ := mem_cells.mp hp
  obtain ⟨-, h3, h4⟩ := tuC_ok ht h1 h2
  exact Nat.pow_lt_pow_right (by decide) (cb_lt h3 h4)
theorem way_lt {w h n : Nat} : ∀ m ∈ ways w h, moved m n < 2 ^ (w * h) := fun m hm => by
  obtain ⟨t, ht, rfl⟩ := List.mem_map.mp hm
  exact LM.moved_lt (mvs_lt ht)
def lotRows (w h : Nat) (ns : List Nat) : List Nat := ns.foldl (LM.joinAll (fun n m => moved m n) (ways w h)) []
def coreRows (w h : Nat) (ns : List Nat) : List Nat := ns.foldl (LM.joinAll (fun n m => n ^^^ moved m n) (ways w h)) []
theorem lotRows_pl (w h : Nat) (ns : List Nat) : Pl (w * h) (lotRows w h ns) := Pl.joinAlls Pl.nil fun _ _ _ hm => way_lt _ hm
theorem coreRows_pl {w h : Nat} {ns : List Nat} (hn : ∀ n ∈ ns, n < 2 ^ (w * h)) : Pl (w * h) (coreRows w h ns) := Pl.joinAlls Pl.nil fun n h1 _ hm => Nat.xor_lt_two_pow (hn n h1) (way_lt _ hm)
theorem ev_lot_rows {w h : Nat} (W : Wh w h) (ns : List Nat) (ah : AH) : f_lot_rows [bxD w h, nsD ns] ah = some (nsD (lotRows w h ns), ah) := by
  have wh : w * h ≤ 36 := Nat.mul_le_mul W.w6 W.h6
  obtain ⟨a, b, e, -⟩ := join_loops (w := w) (h := h) (B := w * h) (M := eCall f_moved_bits (aCons (eVar 4) (aCons (eVar 5) aNil))) (f := fun n m => moved m n) (ns := ns) (ws := ways w h) (ah := ah) (fun n m L => (call_ev (cons_ev (var_ev rfl) (cons_ev (var_ev rfl) (nil_ev _ _)))).trans ev_moved) (fun _ _ _ hm => way_lt _ hm) (by omega)
  have hs : s_lot_rows [some (bxD w h), some (nsD ns), none, none, none, none] ah = some (.rt (nsD (lotRows w h ns)), ah) := by
    unfold s_lot_rows
    exact (seq_nx (asg_ev (d := nsD []) rfl)).trans ((seq_nx (asg_ev ((call_ev (cons_ev (var_ev rfl) (nil_ev _ _))).trans (ev_all_moves W ah)))).trans ((seq_nx ((for_ev (iAny_lst (l := ns.map nD) (var_ev rfl))).trans e)).trans (ret_ev (var_ev rfl))))
  exact (fn_rt rfl hs).trans (by rw [trim_self])
theorem ev_core_rows {w h : Nat} (W : Wh w h) {ns : List Nat} (hn : ∀ n ∈ ns, n < 2 ^ (w * h)) (ah : AH) : f_core_rows [bxD w h, nsD ns] ah = some (nsD (coreRows w h ns), ah) := by
  have wh : w * h ≤ 36 := Nat.mul_le_mul W.w6 W.h6
  obtain ⟨a, b, e, -⟩ := join_loops (w := w) (h := h) (B := w * h) (M := eBin gXor (eVar 4) (eCall f_moved_bits (aCons (eVar 4) (aCons (eVar 5) aNil)))) (f := fun n m => n ^^^ moved m n) (ns := ns) (ws := ways w h) (ah := ah) (fun n m L => xorn (var_ev rfl) ((call_ev (cons_ev (var_ev rfl) (cons_ev (var_ev rfl) (nil_ev _ _)))).trans ev_moved)) (fun n h1 _ hm => Nat.xor_lt_two_pow (hn n h1) (way_lt _ hm)) (by omega)
  have hs : s_core_rows [some (bxD w h), some (nsD ns), none, none, none, none] ah = some (.rt (nsD (coreRows w h ns)), ah) := by
    unfold s_core_rows
    exact (seq_nx (asg_ev (d := nsD []) rfl)).trans ((seq_nx (asg_ev ((call_ev (cons_ev (var_ev rfl) (nil_ev _ _))).trans (ev_all_moves W ah)))).trans ((seq_nx ((for_ev (iAny_lst (l := ns.map nD) (var_ev rfl))).trans e)).trans (ret_ev (var_ev rfl))))
  exact (fn_rt rfl hs).trans (by rw [trim_self])
/-! ### what stays still -/
def ring (w h : Nat) (p : Nat × Nat) : Nat := (ways w h).foldl (fun r m => r ||| moved m (2 ^ cb w h p)) 0
theorem ring_lt (w h : Nat) (p : Nat × Nat) : ring w h p < 2 ^ (w * h) := by
  have gen : ∀ (l : List (List (Nat × Nat))) (r : Nat), (∀ m ∈ l, m ∈ ways w h) → r < 2 ^ (w * h) → l.foldl (fun r m => r ||| moved m (2 ^ cb w h p)) r < 2 ^ (w * h) := fun l => by
    induction l with
    | nil => intro r _ hr; exact hr
    | cons a l ih =>
      intro r hl hr
      exact ih _ (fun m hm => hl m (List.mem_cons_of_mem _ hm)) (Nat.or_lt_two_pow hr (way_lt _ (hl a (List.mem_cons_self ..))))
  exact gen _ _ (fun _ h => h) (Nat.two_pow_pos _)
def stillRows (w h : Nat) : List Nat := LM.plain ((cells w h).map (ring w h))
theorem nsD_bd (n : Nat) (l : List Nat) : D.bd n (nsD l) = true := by
  show D.bds n (l.map nD) = true
  exact bds_map (fun x => rfl) l
theorem ev_still_rows {w h : Nat} (W : Wh w h) {ah : AH} (hb : Bd ah) : f_still_rows [bxD w h] ah = some (nsD (stillRows w h), ah) := by
  have wh : w * h ≤ 36 := Nat.mul_le_mul W.w6 W.h6
  have cl : (cells w h).length ≤ 36 := by rw [cells_len]; exact Nat.mul_le_mul W.h6 W.w6
  have s0 : sAsg (tgN 1) (eOwn (fLst aNil)) [some (bxD w h), none, none, none, none, none] ah = some (.nx [some (bxD w h), some (.ptr ah.length), none, none, none, none], ah ++ [.lst []]) := asg_ev (own_ev (l := []) rfl)
  have s1 : sAsg (tgN 2) (eCall f_all_moves (aCons (eVar 0) aNil)) [some (bxD w h), some (.ptr ah.length), none, none, none, none] (ah ++ [.lst []]) = some (.nx [some (bxD w h), some (.ptr ah.length), some (.lst ((ways w h).map wD)), none, none, none], ah ++ [.lst []]) := asg_ev ((call_ev (cons_ev (var_ev rfl) (nil_ev _ _))).trans (ev_all_moves W _))
  obtain ⟨δ', H', e, -, rfl, a, b, c, rfl⟩ := for_foldI (N := (cells w h).length) (g := tgN 3) (b := sSeq (sAsg (tgN 4) (eC (.int 0))) (sSeq (sFor (iAny (eVar 2)) (tgN 5) (sAsg (tgN 4) (eBin gOr (eVar 4) (eCall f_moved_bits (aCons (eCall f_cell_bit (aCons (eVar 0) (aCons (eVar 3) aNil))) (aCons (eVar 5) aNil)))))) (sExpr (eMut gAppend (eVar 1) (aCons (eVar 4) aNil))))) (i := cD) (f := fun acc p => acc ++ [ring w h p]) (J := fun k acc δ H => acc.length = k ∧ H = ah ++ [.lst (acc.map nD)] ∧ ∃ a b c, δ = [some (bxD w h), some (.ptr ah.length), some (.lst ((ways w h).map wD)), a, b, c]) (l := cells w h) (k := 0) (s := []) (δ := [some (bxD w h), some (.ptr ah.length), some (.lst ((ways w h).map wD)), none, none, none]) (ah := ah ++ [.lst []]) (Nat.zero_add _) ⟨rfl, rfl, _, _, _, rfl⟩ (by
    rintro p hp k acc δ H hk ⟨hl, rfl, a, b, c, rfl⟩
    obtain ⟨h1, h2⟩ := mem_cells.mp hp
    obtain ⟨δ2, e2, c2, rfl⟩ := for_fold (g := tgN 5) (b := sAsg (tgN 4) (eBin gOr (eVar 4) (eCall f_moved_bits (aCons (eCall f_cell_bit (aCons (eVar 0) (aCons (eVar 3) aNil))) (aCons (eVar 5) aNil))))) (i := wD) (f := fun r m => r ||| moved m (2 ^ cb w h p)) (J := fun r δ => ∃ c, δ = [some (bxD w h), some (.ptr ah.length), some (.lst ((ways w h).map wD)), some (cD p), some (nD r), c]) (ah := ah ++ [.lst (acc.map nD)]) (l := ways w h) (s := 0) (δ := [some (bxD w h), some (.ptr ah.length), some (.lst ((ways w h).map wD)), some (cD p), some (nD 0), c]) ⟨_, rfl⟩ (by
      rintro m hm r δ ⟨c, rfl⟩
      exact ⟨_, [some (bxD w h), some (.ptr ah.length), some (.lst ((ways w h).map wD)), some (cD p), some (nD (r ||| moved m (2 ^ cb w h p))), some (wD m)], rfl, asg_ev (orn (n := r) rfl ((call_ev (cons_ev ((call_ev (cons_ev (var_ev rfl) (cons_ev (var_ev rfl) (nil_ev _ _)))).trans (ev_cell_bit W h1 h2 _)) (cons_ev (var_ev rfl) (nil_ev _ _)))).trans ev_moved)), _, rfl⟩)
    have ap := exp_ev (app_ev (k := 1) (e := eVar 4) (δ := [some (bxD w h), some (.ptr ah.length), some (.lst ((ways w h).map wD)), some (cD p), some (nD (ring w h p)), c2]) (ah := ah) (acc := acc.map nD) (d := nD (ring w h p)) rfl rfl (by rw [List.length_map]; omega))
    refine ⟨_, [some (bxD w h), some (.ptr ah.length), some (.lst ((ways w h).map wD)), some (cD p), some (nD (ring w h p)), c2], ah ++ [.lst ((acc ++ [ring w h p]).map nD)], rfl, (seq_nx (asg_ev (cn 0))).trans ((seq_nx ((for_ev (iAny_lst (l := (ways w h).map wD) (var_ev rfl))).trans e2)).trans (ap.trans (by rw [List.map_append]; rfl))), by simp [hl], rfl, _, _, _, rfl⟩)
  rw [foldl_app, List.nil_append] at e
  have s2 : sFor (iAny (eCall f_bit_cells (aCons (eVar 0) aNil))) (tgN 3) (sSeq (sAsg (tgN 4) (eC (.int 0))) (sSeq (sFor (iAny (eVar 2)) (tgN 5) (sAsg (tgN 4) (eBin gOr (eVar 4) (eCall f_moved_bits (aCons (eCall f_cell_bit (aCons (eVar 0) (aCons (eVar 3) aNil))) (aCons (eVar 5) aNil)))))) (sExpr (eMut gAppend (eVar 1) (aCons (eVar 4) aNil))))) [some (bxD w h), some (.ptr ah.length), some (.lst ((ways w h).map wD)), none, none, none] (ah ++ [.lst []]) = _ := (for_ev (iAny_lst ((call_ev (cons_ev (var_ev rfl) (nil_ev _ _))).trans (ev_bit_cells W _)))).trans e
  have hs : s_still_rows [some (bxD w h), none, none, none, none, none] ah = some (.rt (nsD (stillRows w h)), ah ++ [.gone]) := by
    unfold s_still_rows
    refine (seq_nx s0).trans ((seq_nx s1).trans ((seq_nx s2).trans ((frz_slot rfl (freeze_end _ _)).trans (ret_ev ?_))))
    refine (call_ev (cons_ev (d := nsD ((cells w h).map (ring w h))) (var_ev rfl) (nil_ev _ _))).trans (ev_plain (B := w * h) (fun n hn => ?_) (by omega) _)
    obtain ⟨p, -, rfl⟩ := List.mem_map.mp hn
    exact ring_lt w h p
  exact (fn_rt rfl hs).trans (congrArg some (trim_app (nsD_bd _ _) hb))
theorem still_pl (w h : Nat) : Pl (w * h) (stillRows w h) := Pl.plain fun n hn => by
  obtain ⟨p, -, rfl⟩ := List.mem_map.mp hn
  exact ring_lt w h p
/-! ### combs -/
theorem ev_comb_at {B k : Nat} {L : List Nat} (p : Pl B L) (hB : B ≤ 60) (ah : AH) : f_comb_at [nsD L, nD (2 ^ k)] ah = some (nD (LM.combAt L k), ah) := by
  obtain ⟨δ', e, x, rfl⟩ := for_fold (g := tgN 3) (b := sIf (tOf (eBin gNe (eBin gAnd (eVar 3) (eVar 1)) (eC (.int 0)))) (sAsg (tgN 2) (eBin gOr (eVar 2) (eCall f_top_bit (aCons (eVar 3) aNil)))) sNil) (i := nD) (f := fun f r => if r.testBit k = true then f ||| 2 ^ r.log2 else f) (J := fun f δ => ∃ x, δ = [some (nsD L), some (nD (2 ^ k)), some (nD f), x]) (ah := ah) (l := L) (s := 2 ^ k) (δ := [some (nsD L), some (nD (2 ^ k)), some (nD (2 ^ k)), none]) ⟨_, rfl⟩ (by
    rintro r hr f δ ⟨x, rfl⟩
    refine ⟨_, [some (nsD L), some (nD (2 ^ k)), some (nD (if r.testBit k = true then f ||| 2 ^ r.log2 else f)), some (nD r)], rfl, ?_, _, rfl⟩
    have t := bit_test (δ := [some (nsD L), some (nD (2 ^ k)), some (nD f), some (nD r)]) (ah := ah) (a := eVar 3) (b := eVar 1) (n := r) (k := k) rfl rfl
    cases eb : r.testBit k with
    | true =>
      rw [eb] at t
      rw [if_pos rfl]
      exact (if_t t).trans (asg_ev (orn (n := f) rfl ((call_ev (cons_ev (var_ev rfl) (nil_ev _ _))).trans (ev_topP (p.pos r hr) (p.lt r hr) hB ah))))
    | false =>
      rw [eb] at t
      rw [if_neg (by decide)]
      exact nil_t' t)
  have hs : s_comb_at [some (nsD L), some (nD (2 ^ k)), none, none] ah = some (.rt (nD (LM.combAt L k)), ah) := by
    unfold s_comb_at
    exact (seq_nx (asg_ev (d := nD (2 ^ k)) (var_ev rfl))).trans ((seq_nx ((for_ev (iAny_lst (l := L.map nD) (var_ev rfl))).trans e)).trans (ret_ev (var_ev rfl)))
  have hf := fn_rt (n := 4) (k := 2) (s := s_comb_at) (ds := [nsD L, nD (2 ^ k)]) (ah := ah) (ah2 := ah) (d := nD (LM.combAt L k)) rfl hs
  rw [trim_self] at hf
  exact hf
def agRows (w h : Nat) (L : List Nat) : List Nat := LM.plain ((((cells w h).map (cb w h)).filter fun k => decide (LM.firsts L &&& 2 ^ k = 0)).map (LM.combAt L))
theorem agRows_pl {w h : Nat} {L : List Nat} (p : Pl (w * h) L) : Pl (w * h) (agRows w h L) := Pl.plain fun n hn => by
  obtain ⟨k, hk, rfl⟩ := List.mem_map.mp hn
  obtain ⟨q, hq, rfl⟩ := List.mem_map.mp (List.mem_filter.mp hk).1
  obtain ⟨h1, h2⟩ := mem_cells.mp hq
  exact LM.comb_lt p (cb_lt h1 h2)
theorem ev_against {w h : Nat} (W : Wh w h) {L : List Nat} (p : Pl (w * h) L) (ah : AH) : f_against_rows [bxD w h, nsD L] ah = some (nsD (agRows w h L), ah) := by
  have wh : w * h ≤ 36 := Nat.mul_le_mul W.w6 W.h6
  have cl : (cells w h).length ≤ 36 := by rw [cells_len]; exact Nat.mul_le_mul W.h6 W.w6
  obtain ⟨δ', e, x, rfl⟩ := for_fold (g := tgN 3) (b := sAsg (tgN 2) (eBin gOr (eVar 2) (eCall f_top_bit (aCons (eVar 3) aNil)))) (i := nD) (f := fun f r => f ||| 2 ^ r.log2) (J := fun f δ => ∃ x, δ = [some (bxD w h), some (nsD L), some (nD f), x, none, none, none]) (ah := ah) (l := L) (s := 0) (δ := [some (bxD w h), some (nsD L), some (nD 0), none, none, none, none]) ⟨_, rfl⟩ (by
    rintro r hr f δ ⟨x, rfl⟩
    exact ⟨_, [some (bxD w h), some (nsD L), some (nD (f ||| 2 ^ r.log2)), some (nD r), none, none, none], rfl, asg_ev (orn (n := f) rfl ((call_ev (cons_ev (var_ev rfl) (nil_ev _ _))).trans (ev_topP (p.pos r hr) (p.lt r hr) (by omega) ah))), _, rfl⟩)
  have a4 : sAsg (tgN 4) (eFrz (fComp (iAny (eCall f_bit_cells (aCons (eVar 0) aNil))) (tgN 5) tYesM (eCall f_cell_bit (aCons (eVar 0) (aCons (eVar 5) aNil))) [5])) [some (bxD w h), some (nsD L), some (nD (LM.firsts L)), x, none, none, none] ah = some (.nx [some (bxD w h), some (nsD L), some (nD (LM.firsts L)), x, some (.lst (((cells w h).map (cb w h)).map fun k => nD (2 ^ k))), none, none], ah) := by
    refine asg_ev (frz_ev ((comp_ev (iAny_lst ((call_ev (cons_ev (var_ev rfl) (nil_ev _ _))).trans (ev_bit_cells W ah))) (by rw [List.length_map]; omega)).trans ?_))
    rw [List.map_map]
    refine compGo_map fun q hq => ⟨[some (bxD w h), some (nsD L), some (nD (LM.firsts L)), x, none, some (cD q), none], rfl, rfl, ?_⟩
    obtain ⟨h1, h2⟩ := mem_cells.mp hq
    exact (call_ev (cons_ev (var_ev rfl) (cons_ev (var_ev rfl) (nil_ev _ _)))).trans (ev_cell_bit W h1 h2 ah)
  have hs : s_against_rows [some (bxD w h), some (nsD L), none, none, none, none, none] ah = some (.rt (nsD (agRows w h L)), ah) := by
    unfold s_against_rows
    refine (seq_nx (asg_ev (cn 0))).trans ((seq_nx ((for_ev (iAny_lst (l := L.map nD) (var_ev rfl))).trans e)).trans ((seq_nx a4).trans (ret_ev ?_)))
    unfold agRows
    generalize LM.firsts L = F at *
    have cf : eFrz (fComp (iAny (eVar 4)) (tgN 6) (tOf (eBin gEq (eBin gAnd (eVar 2) (eVar 6)) (eC (.int 0)))) (eCall f_comb_at (aCons (eVar 1) (aCons (eVar 6) aNil))) [6]) [some (bxD w h), some (nsD L), some (nD F), x, some (.lst (((cells w h).map (cb w h)).map fun k => nD (2 ^ k))), none, none] ah = some (.lst ((((cells w h).map (cb w h)).filter fun k => decide (F &&& 2 ^ k = 0)).map fun k => nD (LM.combAt L k)), ah) := by
      refine frz_ev ((comp_ev (iAny_lst (var_ev rfl)) (by rw [List.length_map, List.length_map]; omega)).trans ?_)
      refine compGo_filter (p := fun k => decide (F &&& 2 ^ k = 0)) (f := fun k => nD (LM.combAt L k)) fun k _ => ⟨[some (bxD w h), some (nsD L), some (nD F), x, some (.lst (((cells w h).map (cb w h)).map fun k => nD (2 ^ k))), none, some (nD (2 ^ k))], rfl, eqn (andn (n := F) (k := 2 ^ k) rfl rfl) (cn 0), fun _ => ?_⟩
      exact (call_ev (cons_ev (var_ev rfl) (cons_ev (var_ev rfl) (nil_ev _ _)))).trans (ev_comb_at p (by omega) ah)
    refine (call_ev (cons_ev (d := nsD ((((cells w h).map (cb w h)).filter fun k => decide (F &&& 2 ^ k = 0)).map (LM.combAt L))) (cf.trans ?_) (nil_ev _ _))).trans (ev_plain (B := w * h) (fun n hn => ?_) (by omega) _)
    · rw [nsD, List.map_map]
      rfl
    · obtain ⟨k, hk, rfl⟩ := List.mem_map.mp hn
      obtain ⟨q, hq, rfl⟩ := List.mem_map.mp (List.mem_filter.mp hk).1
      obtain ⟨h1, h2⟩ := mem_cells.mp hq
      exact LM.comb_lt p (cb_lt h1 h2)
  exact (fn_rt rfl hs).trans (by rw [trim_self])
def metRows (w h : Nat) (L M : List Nat) : List Nat := agRows w h (LM.plain (agRows w h L ++ agRows w h M))
theorem both_pl {B : Nat} {L M : List Nat} (p : Pl B L) (q : Pl B M) : Pl B (LM.plain (L ++ M)) := Pl.plain fun n hn => (List.mem_append.mp hn).elim (p.lt n) (q.lt n)
theorem metRows_pl {w h : Nat} {L M : List Nat} (p : Pl (w * h) L) (q : Pl (w * h) M) : Pl (w * h) (metRows w h L M) := agRows_pl (both_pl (agRows_pl p) (agRows_pl q))
theorem ev_met {w h : Nat} (W : Wh w h) {L M : List Nat} (p : Pl (w * h) L) (q : Pl (w * h) M) (ah : AH) : f_met_rows [bxD w h, nsD L, nsD M] ah = some (nsD (metRows w h L M), ah) := by
  have wh : w * h ≤ 36 := Nat.mul_le_mul W.w6 W.h6
  have pl := (agRows_pl p).len
  have ql := (agRows_pl q).len
  have hs : s_met_rows [some (bxD w h), some (nsD L), some (nsD M)] ah = some (.rt (nsD (metRows w h L M)), ah) := by
    unfold s_met_rows
    have e1 := add_lst (a := eCall f_against_rows (aCons (eVar 0) (aCons (eVar 1) aNil))) (b := eCall f_against_rows (aCons (eVar 0) (aCons (eVar 2) aNil))) (δ := [some (bxD w h), some (nsD L), some (nsD M)]) (ah := ah) (l := (agRows w h L).map nD) (m := (agRows w h M).map nD) ((call_ev (cons_ev (var_ev rfl) (cons_ev (var_ev rfl) (nil_ev _ _)))).trans (ev_against W p ah)) ((call_ev (cons_ev (var_ev rfl) (cons_ev (var_ev rfl) (nil_ev _ _)))).trans (ev_against W q ah)) (by simp; omega)
    rw [← List.map_append] at e1
    have e2 := (call_ev (cons_ev e1 (nil_ev _ _))).trans (ev_plain (ns := agRows w h L ++ agRows w h M) (B := w * h) (fun n hn => (List.mem_append.mp hn).elim ((agRows_pl p).lt n) ((agRows_pl q).lt n)) (by omega) ah)
    exact ret_ev ((call_ev (cons_ev (var_ev rfl) (cons_ev e2 (nil_ev _ _)))).trans (ev_against W (both_pl (agRows_pl p) (agRows_pl q)) ah))
  exact (fn_rt rfl hs).trans (by rw [trim_self])
/-! ### those apart -/
theorem ev_apart {B : Nat} {L ns : List Nat} (p : Pl B L) (hn : ∀ n ∈ ns, n < 2 ^ B) (hB : B ≤ 60) (hl : ns.length ≤ 1000) {ah : AH} (hb : Bd ah) : f_apart_over [nsD L, nsD ns] ah = some (nsD (LM.apart L ns), ah) := by
  have s0 : sAsg (tgN 2) (eOwn (fLst aNil)) [some (nsD L), some (nsD ns), none, none] ah = some (.nx [some (nsD L), some (nsD ns), some (.ptr ah.length), none], ah ++ [.lst []]) := asg_ev (own_ev (l := []) rfl)
  obtain ⟨δ', H', e, -, -, rfl, a, rfl⟩ := for_foldI (N := ns.length) (g := tgN 3) (b := sIf (tOf (eBin gNe (eCall f_sifted (aCons (eVar 0) (aCons (eVar 3) aNil))) (eC (.int 0)))) (sSeq (sExpr (eMut gAppend (eVar 2) (aCons (eVar 3) aNil))) (sAsg (tgN 0) (eCall f_joined_rows (aCons (eVar 0) (aCons (eVar 3) aNil))))) sNil) (i := nD) (f := LM.apart1) (J := fun k s δ H => s.2.length ≤ k ∧ Pl B s.1 ∧ H = ah ++ [.lst (s.2.map nD)] ∧ ∃ a, δ = [some (nsD s.1), some (nsD ns), some (.ptr ah.length), a]) (l := ns) (k := 0) (s := (L, [])) (δ := [some (nsD L), some (nsD ns), some (.ptr ah.length), none]) (ah := ah ++ [.lst []]) (Nat.zero_add _) ⟨Nat.le_refl _, p, rfl, _, rfl⟩ (by
    rintro n hn' k ⟨L1, F⟩ δ H hk ⟨hF, pl, rfl, a, rfl⟩
    have hF : F.length ≤ k := hF
    have pl : Pl B L1 := pl
    have t := nen (a := eCall f_sifted (aCons (eVar 0) (aCons (eVar 3) aNil))) (δ := [some (nsD L1), some (nsD ns), some (.ptr ah.length), some (nD n)]) (ah := ah ++ [.lst (F.map nD)]) ((call_ev (cons_ev (var_ev rfl) (cons_ev (var_ev rfl) (nil_ev _ _)))).trans (ev_siftP pl hB _)) (cn 0)
    refine ⟨_, [some (nsD (LM.apart1 (L1, F) n).1), some (nsD ns), some (.ptr ah.length), some (nD n)], ah ++ [.lst ((LM.apart1 (L1, F) n).2.map nD)], rfl, ?_, ?_, pl.apart1 (s := (L1, F)) (hn n hn'), rfl, _, rfl⟩
    · unfold LM.apart1
      by_cases h0 : LM.sift L1 n = 0
      · rw [decide_eq_true h0] at t
        rw [if_pos h0]
        exact nil_t' t
      · rw [decide_eq_false h0] at t
        rw [if_neg h0]
        have ap := exp_ev (app_ev (k := 2) (e := eVar 3) (δ := [some (nsD L1), some (nsD ns), some (.ptr ah.length), some (nD n)]) (ah := ah) (acc := F.map nD) (d := nD n) rfl rfl (by rw [List.length_map]; omega))
        refine (if_t t).trans ((seq_nx ap).trans ?_)
        show _ = some (Out.nx [some (nsD (LM.join L1 n)), some (nsD ns), some (.ptr ah.length), some (nD n)], ah ++ [.lst ((F ++ [n]).map nD)])
        rw [List.map_append]
        exact asg_ev ((call_ev (cons_ev (var_ev rfl) (cons_ev (var_ev rfl) (nil_ev _ _)))).trans (ev_joinP pl (hn n hn') hB _))
    · unfold LM.apart1
      split
      · show F.length ≤ _; omega
      · show (F ++ [n]).length ≤ _; simp; omega)
  have hs : s_apart_over [some (nsD L), some (nsD ns), none, none] ah = some (.rt (nsD (LM.apart L ns)), ah ++ [.gone]) := by
    unfold s_apart_over
    refine (seq_nx s0).trans ((seq_nx ((for_ev (iAny_lst (l := ns.map nD) (var_ev rfl))).trans e)).trans (ret_ev ?_))
    unfold eFreeze
    rw [var_ev (d := .ptr ah.length) rfl, Option.bind_some, freeze_end]
    rfl
  exact (fn_rt rfl hs).trans (congrArg some (trim_app (nsD_bd _ _) hb))
end K19

set_option linter.all false
set_option maxRecDepth 100000
namespace LM
open PySem L2 MM
theorem and_pow_zero {n i : Nat} : n &&& 2 ^ i = 0 ↔ n.testBit i = false := by
  constructor
  · intro h
    have : (n &&& 2 ^ i).testBit i = false := by rw [h, Nat.zero_testBit]
    rw [Nat.testBit_and, Nat.testBit_two_pow] at this
    simpa using this
  · intro h
    refine Nat.eq_of_testBit_eq fun j => ?_
    rw [Nat.testBit_and, Nat.testBit_two_pow, Nat.zero_testBit]
    by_cases hj : i = j
    · rw [← hj, h]; rfl
    · simp [hj]
theorem mv_bit {n j : Nat} : ∀ {mv : List (Nat × Nat)} {f : Nat}, (mv.foldl (mv1 n) f).testBit j = (f.testBit j || mv.any fun m => !decide (n &&& m.1 = 0) && m.2.testBit j)
  | [], f => by simp
  | m :: r, f => by
    show (r.foldl (mv1 n) (mv1 n f m)).testBit j = _
    rw [mv_bit (mv := r), List.any_cons, ← Bool.or_assoc]
    congr 1
    unfold mv1
    by_cases h : n &&& m.1 = 0
    · simp [h]
    · simp [h, Nat.testBit_or]
theorem moved_bit0 {n j : Nat} {mv : List (Nat × Nat)} : (moved mv n).testBit j = mv.any fun m => !decide (n &&& m.1 = 0) && m.2.testBit j := by
  unfold moved
  rw [mv_bit, Nat.zero_testBit, Bool.false_or]
/-- closed under laying over one another -/
structure Xc (P : Nat → Prop) : Prop where
  z : P 0
  x : ∀ a b, P a → P b → P (a ^^^ b)
theorem Xc.sift {P : Nat → Prop} (c : Xc P) : ∀ {L : List Nat} {n : Nat}, (∀ r ∈ L, P r) → P n → P (sift L n)
  | [], _, _, h => h
  | r :: L, n, hL, h => by
    show P (LM.sift L (sift1 n r))
    refine Xc.sift c (fun s hs => hL s (List.mem_cons_of_mem _ hs)) ?_
    unfold sift1
    split
    · exact c.x _ _ h (hL r (List.mem_cons_self ..))
    · exact h
theorem Xc.join {P : Nat → Prop} (c : Xc P) {L : List Nat} {n : Nat} (hL : ∀ r ∈ L, P r) (h : P n) : ∀ r ∈ join L n, P r := by
  have hs := c.sift hL h
  unfold LM.join
  split
  · exact hL
  · intro r hr
    rcases List.mem_append.mp (mem_sort.mp hr) with q | q
    · obtain ⟨s, hs', rfl⟩ := List.mem_map.mp q
      split
      · exact c.x _ _ (hL s hs') hs
      · exact hL s hs'
    · rw [List.mem_singleton.mp q]
      exact hs
theorem Xc.joinAll {P : Nat → Prop} (c : Xc P) {f : Nat → List (Nat × Nat) → Nat} {n : Nat} : ∀ {ws : List (List (Nat × Nat))} {L : List Nat}, (∀ r ∈ L, P r) → (∀ m ∈ ws, P (f n m)) → ∀ r ∈ joinAll f ws L n, P r
  | [], _, hL, _ => hL
  | m :: r, L, hL, h => Xc.joinAll c (ws := r) (L := LM.join L (f n m)) (c.join hL (h m (List.mem_cons_self ..))) fun x hx => h x (List.mem_cons_of_mem _ hx)
theorem Xc.joinAlls {P : Nat → Prop} (c : Xc P) {f : Nat → List (Nat × Nat) → Nat} {ws : List (List (Nat × Nat))} : ∀ {ns L : List Nat}, (∀ r ∈ L, P r) → (∀ n ∈ ns, ∀ m ∈ ws, P (f n m)) → ∀ r ∈ ns.foldl (LM.joinAll f ws) L, P r
  | [], _, hL, _ => hL
  | n :: r, L, hL, h => Xc.joinAlls c (ns := r) (L := LM.joinAll f ws L n) (c.joinAll hL (h n (List.mem_cons_self ..))) fun x hx => h x (List.mem_cons_of_mem _ hx)
end LM

set_option linter.all false
set_option maxRecDepth 100000
namespace K19
open PySem L2 MM
open LM (mv1 moved Pl)
/-! ### turnings of cells -/
abbrev Tn := Bool × Nat
def tau (w h : Nat) (t : Tn) (p : Nat × Nat) : Nat × Nat := ((tuC t.1 t.2 w h p).2.2.1, (tuC t.1 t.2 w h p).2.2.2)
def mulT (g t : Tn) : Tn := if t.1 = true then (!g.1, (t.2 + 4 - g.2) % 4) else (g.1, (g.2 + t.2) % 4)
def invT (t : Tn) : Tn := if t.1 = true then t else (false, (4 - t.2) % 4)
theorem mem_allT {w h : Nat} {t : Tn} : t ∈ allT (decide (w = h)) ↔ t.2 ≤ 3 ∧ (w = h ∨ t.2 % 2 = 0) := by
  obtain ⟨m, q⟩ := t
  unfold allT
  by_cases e : w = h
  · rw [decide_eq_true e, if_pos rfl]
    simp only [e, true_or, and_true]
    constructor
    · intro ht
      simp only [List.mem_cons, List.not_mem_nil, or_false, Prod.mk.injEq] at ht
      show q ≤ 3
      omega
    · intro hq
      have hq : q ≤ 3 := hq
      match q, hq with
      | 0, _ => cases m <;> decide
      | 1, _ => cases m <;> decide
      | 2, _ => cases m <;> decide
      | 3, _ => cases m <;> decide
  · rw [decide_eq_false e, if_neg (by decide)]
    simp only [e, false_or]
    constructor
    · intro ht
      simp only [List.mem_cons, List.not_mem_nil, or_false, Prod.mk.injEq] at ht
      constructor
      · show q ≤ 3; omega
      · show q % 2 = 0; omega
    · rintro ⟨hq, hq2⟩
      have hq : q ≤ 3 := hq
      have hq2 : q % 2 = 0 := hq2
      match q, hq, hq2 with
      | 0, _, _ => cases m <;> decide
      | 1, _, h => cases h
      | 2, _, _ => cases m <;> decide
      | 3, _, h => cases h
theorem inv_mem {w h : Nat} {t : Tn} (ht : t ∈ allT (decide (w = h))) : invT t ∈ allT (decide (w = h)) := by
  rw [mem_allT] at ht ⊢
  obtain ⟨m, q⟩ := t
  unfold invT
  cases m with
  | true => exact ht
  | false =>
    obtain ⟨h1, h2⟩ := ht
    have h1 : q ≤ 3 := h1
    have h2 : w = h ∨ q % 2 = 0 := h2
    show (4 - q) % 4 ≤ 3 ∧ (w = h ∨ (4 - q) % 4 % 2 = 0)
    omega
theorem mul_mem {w h : Nat} {g t : Tn} (hg : g ∈ allT (decide (w = h))) (ht : t ∈ allT (decide (w = h))) : mulT g t ∈ allT (decide (w = h)) := by
  rw [mem_allT] at hg ht ⊢
  obtain ⟨m, q⟩ := t
  obtain ⟨m', q'⟩ := g
  obtain ⟨h1, h2⟩ := ht
  obtain ⟨h3, h4⟩ := hg
  have h1 : q ≤ 3 := h1
  have h2 : w = h ∨ q % 2 = 0 := h2
  have h3 : q' ≤ 3 := h3
  have h4 : w = h ∨ q' % 2 = 0 := h4
  unfold mulT
  cases m with
  | true =>
    show (q + 4 - q') % 4 ≤ 3 ∧ (w = h ∨ (q + 4 - q') % 4 % 2 = 0)
    omega
  | false =>
    show (q' + q) % 4 ≤ 3 ∧ (w = h ∨ (q' + q) % 4 % 2 = 0)
    omega
/-- the turnings, cell by cell -/
def tauF (w h : Nat) (t : Tn) (p : Nat × Nat) : Nat × Nat :=
  let x := if t.1 = true then w - 1 - p.1 else p.1
  match t.2 with
  | 0 => (x, p.2)
  | 1 => (h - 1 - p.2, x)
  | 2 => (w - 1 - x, h - 1 - p.2)
  | _ => (h - 1 - (h - 1 - p.2), w - 1 - x)
theorem tau_eq {w h : Nat} {t : Tn} (hq : t.2 ≤ 3) (p : Nat × Nat) : tau w h t p = tauF w h t p := by
  obtain ⟨m, q⟩ := t
  have hq : q ≤ 3 := hq
  match q, hq with
  | 0, _ => rfl
  | 1, _ => rfl
  | 2, _ => rfl
  | 3, _ => rfl
theorem tau_in {w h : Nat} {t : Tn} (ht : t ∈ allT (decide (w = h))) {p : Nat × Nat} (hp : p ∈ cells w h) : tau w h t p ∈ cells w h := by
  obtain ⟨h1, h2⟩ := mem_cells.mp hp
  obtain ⟨-, h3, h4⟩ := tuC_ok ht h1 h2
  exact mem_cells.mpr ⟨h3, h4⟩
/-- one turning behind another -/
theorem tau_mul {w h : Nat} {g t : Tn} (hg : g ∈ allT (decide (w = h))) (ht : t ∈ allT (decide (w = h))) {p : Nat × Nat} (hp : p ∈ cells w h) : tau w h t (tau w h g p) = tau w h (mulT g t) p := by
  have hm := mul_mem hg ht
  rw [mem_allT] at hg ht hm
  rw [tau_eq ht.1, tau_eq hg.1, tau_eq hm.1]
  obtain ⟨p1, p2⟩ := mem_cells.mp hp
  obtain ⟨x, y⟩ := p
  obtain ⟨m, q⟩ := t
  obtain ⟨m', q'⟩ := g
  obtain ⟨h1, h2⟩ := ht
  obtain ⟨h3, h4⟩ := hg
  have h1 : q ≤ 3 := h1
  have h2 : w = h ∨ q % 2 = 0 := h2
  have h3 : q' ≤ 3 := h3
  have h4 : w = h ∨ q' % 2 = 0 := h4
  have p1 : x < w := p1
  have p2 : y < h := p2
  have hq : q = 0 ∨ q = 1 ∨ q = 2 ∨ q = 3 := by omega
  have hq' : q' = 0 ∨ q' = 1 ∨ q' = 2 ∨ q' = 3 := by omega
  rcases hq with rfl | rfl | rfl | rfl <;> rcases hq' with rfl | rfl | rfl | rfl <;> cases m <;> cases m' <;> simp [tauF, mulT] <;> omega
theorem tau_inv {w h : Nat} {t : Tn} (ht : t ∈ allT (decide (w = h))) {p : Nat × Nat} (hp : p ∈ cells w h) : tau w h t (tau w h (invT t) p) = p ∧ tau w h (invT t) (tau w h t p) = p := by
  have hi := inv_mem ht
  rw [tau_mul hi ht hp, tau_mul ht hi hp]
  rw [mem_allT] at ht
  obtain ⟨m, q⟩ := t
  have h1 : q ≤ 3 := ht.1
  have e1 : mulT (invT (m, q)) (m, q) = (false, 0) := by
    match q, h1 with
    | 0, _ => cases m <;> decide
    | 1, _ => cases m <;> decide
    | 2, _ => cases m <;> decide
    | 3, _ => cases m <;> decide
  have e2 : mulT (m, q) (invT (m, q)) = (false, 0) := by
    match q, h1 with
    | 0, _ => cases m <;> decide
    | 1, _ => cases m <;> decide
    | 2, _ => cases m <;> decide
    | 3, _ => cases m <;> decide
  rw [e1, e2]
  exact ⟨rfl, rfl⟩
theorem cb_inj {w h : Nat} {p q : Nat × Nat} (hp : p ∈ cells w h) (hq : q ∈ cells w h) (e : cb w h p = cb w h q) : p = q := by
  obtain ⟨p1, p2⟩ := mem_cells.mp hp
  obtain ⟨q1, q2⟩ := mem_cells.mp hq
  have a := cell_lt p1 p2
  have b := cell_lt q1 q2
  unfold cb at e
  have e' : w * p.2 + p.1 = w * q.2 + q.1 := by omega
  have hw : 0 < w := by omega
  have d1 : (w * p.2 + p.1) / w = p.2 := by rw [Nat.mul_add_div hw, Nat.div_eq_of_lt p1, Nat.add_zero]
  have d2 : (w * q.2 + q.1) / w = q.2 := by rw [Nat.mul_add_div hw, Nat.div_eq_of_lt q1, Nat.add_zero]
  have y : p.2 = q.2 := by rw [← d1, ← d2, e']
  have x : p.1 = q.1 := by rw [y] at e'; omega
  exact Prod.ext x y
/-- the place of a cell -/
theorem cb_onto {w h j : Nat} (hj : j < w * h) : ∃ p ∈ cells w h, cb w h p = j := by
  have hw : 0 < w := by
    rcases Nat.eq_zero_or_pos w with e | e
    · rw [e, Nat.zero_mul] at hj; omega
    · exact e
  refine ⟨((w * h - 1 - j) % w, (w * h - 1 - j) / w), mem_cells.mpr ⟨Nat.mod_lt _ hw, ?_⟩, ?_⟩
  · rw [Nat.div_lt_iff_lt_mul hw]
    have := Nat.mul_comm w h
    show w * h - 1 - j < h * w
    omega
  · unfold cb
    have := Nat.div_add_mod (w * h - 1 - j) w
    show w * h - 1 - w * ((w * h - 1 - j) / w) - (w * h - 1 - j) % w = j
    omega
/-- a number turned, bit by bit -/
theorem moved_bit {w h n : Nat} {t : Tn} (ht : t ∈ allT (decide (w = h))) {q : Nat × Nat} (hq : q ∈ cells w h) : (moved (mvs w h t) n).testBit (cb w h q) = n.testBit (cb w h (tau w h (invT t) q)) := by
  rw [LM.moved_bit0, mvs, List.any_map, Bool.eq_iff_iff, List.any_eq_true]
  constructor
  · rintro ⟨p, hp, h2⟩
    simp only [Function.comp, Bool.and_eq_true, Bool.not_eq_true', decide_eq_false_iff_not, Nat.testBit_two_pow, decide_eq_true_eq, LM.and_pow_zero, Bool.not_eq_false] at h2
    have e : tau w h t p = q := cb_inj (tau_in ht hp) hq h2.2
    rw [← e, (tau_inv ht hp).2]
    exact h2.1
  · intro h2
    refine ⟨tau w h (invT t) q, tau_in (inv_mem ht) hq, ?_⟩
    simp only [Function.comp, Bool.and_eq_true, Bool.not_eq_true', decide_eq_false_iff_not, Nat.testBit_two_pow, decide_eq_true_eq, LM.and_pow_zero, Bool.not_eq_false]
    exact ⟨h2, congrArg (cb w h) (tau_inv ht hq).1⟩
/-- numbers alike at all cells -/
theorem num_ext {w h a b : Nat} (ha : a < 2 ^ (w * h)) (hb : b < 2 ^ (w * h)) (e : ∀ q ∈ cells w h, a.testBit (cb w h q) = b.testBit (cb w h q)) : a = b := by
  refine Nat.eq_of_testBit_eq fun j => ?_
  by_cases hj : j < w * h
  · obtain ⟨p, hp, rfl⟩ := cb_onto hj
    exact e p hp
  · have pw : 2 ^ (w * h) ≤ 2 ^ j := Nat.pow_le_pow_right (by decide) (by omega)
    rw [Nat.testBit_lt_two_pow (by omega), Nat.testBit_lt_two_pow (by omega)]
def ph (w h : Nat) (t : Tn) (n : Nat) : Nat := moved (mvs w h t) n
theorem ph_lt {w h n : Nat} {t : Tn} (ht : t ∈ allT (decide (w = h))) : ph w h t n < 2 ^ (w * h) := LM.moved_lt (mvs_lt ht)
theorem ph_xor {w h a b : Nat} {t : Tn} (ht : t ∈ allT (decide (w = h))) : ph w h t (a ^^^ b) = ph w h t a ^^^ ph w h t b := by
  refine num_ext (ph_lt ht) (Nat.xor_lt_two_pow (ph_lt ht) (ph_lt ht)) fun q hq => ?_
  unfold ph
  rw [moved_bit ht hq, Nat.testBit_xor, Nat.testBit_xor, moved_bit ht hq, moved_bit ht hq]
theorem ph_zero {w h : Nat} {t : Tn} (ht : t ∈ allT (decide (w = h))) : ph w h t 0 = 0 := by
  refine num_ext (ph_lt ht) (Nat.two_pow_pos _) fun q hq => ?_
  unfold ph
  rw [moved_bit ht hq, Nat.zero_testBit, Nat.zero_testBit]
theorem inv_mul {g t : Tn} (hg : g.2 ≤ 3) (ht : t.2 ≤ 3) : mulT (invT t) (invT g) = invT (mulT g t) := by
  obtain ⟨m, q⟩ := t
  obtain ⟨m', q'⟩ := g
  have h1 : q = 0 ∨ q = 1 ∨ q = 2 ∨ q = 3 := by have : q ≤ 3 := ht; omega
  have h2 : q' = 0 ∨ q' = 1 ∨ q' = 2 ∨ q' = 3 := by have : q' ≤ 3 := hg; omega
  rcases h1 with rfl | rfl | rfl | rfl <;> rcases h2 with rfl | rfl | rfl | rfl <;> cases m <;> cases m' <;> decide
theorem ph_mul {w h n : Nat} {g t : Tn} (hg : g ∈ allT (decide (w = h))) (ht : t ∈ allT (decide (w = h))) : ph w h t (ph w h g n) = ph w h (mulT g t) n := by
  refine num_ext (ph_lt ht) (ph_lt (mul_mem hg ht)) fun q hq => ?_
  unfold ph
  rw [moved_bit ht hq, moved_bit hg (tau_in (inv_mem ht) hq), moved_bit (mul_mem hg ht) hq, tau_mul (inv_mem ht) (inv_mem hg) hq, inv_mul (mem_allT.mp hg).1 (mem_allT.mp ht).1]
theorem ph_id {w h n : Nat} (hn : n < 2 ^ (w * h)) : ph w h (false, 0) n = n := by
  have h0 : ((false, 0) : Tn) ∈ allT (decide (w = h)) := mem_allT.mpr ⟨by decide, .inr rfl⟩
  refine num_ext (ph_lt h0) hn fun q hq => ?_
  unfold ph
  rw [moved_bit h0 hq]
  rfl
end K19

set_option linter.all false
set_option maxRecDepth 100000
namespace K19
open PySem L2 MM
open LM (mv1 moved Pl Xc)
/-! ### the sums of turnings: every five steps to the core end at nothing -/
def ix (t : Tn) : Nat := t.2 + if t.1 = true then 4 else 0
def opL (w h : Nat) (c u : Nat) : List Tn → Nat
  | [] => 0
  | t :: r => (if c.testBit (ix t) = true then ph w h t u else 0) ^^^ opL w h c u r
theorem opL_xor {w h c d u : Nat} : ∀ L : List Tn, opL w h (c ^^^ d) u L = opL w h c u L ^^^ opL w h d u L
  | [] => (Nat.xor_self 0).symm
  | t :: r => by
    show (if (c ^^^ d).testBit (ix t) = true then ph w h t u else 0) ^^^ opL w h (c ^^^ d) u r = _
    rw [opL_xor r, Nat.testBit_xor]
    show _ = ((if c.testBit (ix t) = true then ph w h t u else 0) ^^^ opL w h c u r) ^^^ ((if d.testBit (ix t) = true then ph w h t u else 0) ^^^ opL w h d u r)
    have ac : ∀ a b x y : Nat, (a ^^^ x) ^^^ (b ^^^ y) = (a ^^^ b) ^^^ (x ^^^ y) := fun a b x y => by
      rw [Nat.xor_assoc, Nat.xor_assoc, ← Nat.xor_assoc x b y, Nat.xor_comm x b, Nat.xor_assoc b x y]
    rw [ac]
    congr 1
    cases c.testBit (ix t) <;> cases d.testBit (ix t) <;> simp
theorem opL_zero {w h u : Nat} : ∀ L : List Tn, opL w h 0 u L = 0
  | [] => rfl
  | t :: r => by
    show (if (0 : Nat).testBit (ix t) = true then ph w h t u else 0) ^^^ opL w h 0 u r = 0
    rw [opL_zero r, Nat.zero_testBit]
    simp
theorem opL_none {w h u : Nat} {i : Nat} : ∀ {L : List Tn}, (∀ t ∈ L, ix t ≠ i) → opL w h (2 ^ i) u L = 0
  | [], _ => rfl
  | t :: r, hn => by
    show (if (2 ^ i).testBit (ix t) = true then ph w h t u else 0) ^^^ opL w h (2 ^ i) u r = 0
    rw [opL_none fun s hs => hn s (List.mem_cons_of_mem _ hs), Nat.testBit_two_pow]
    have := hn t (List.mem_cons_self ..)
    simp [Ne.symm this]
theorem opL_one {w h u : Nat} {t : Tn} : ∀ {L : List Tn}, (L.map ix).Nodup → t ∈ L → opL w h (2 ^ ix t) u L = ph w h t u
  | s :: r, nd, ht => by
    rw [List.map_cons, List.nodup_cons] at nd
    show (if (2 ^ ix t).testBit (ix s) = true then ph w h s u else 0) ^^^ opL w h (2 ^ ix t) u r = _
    rcases List.mem_cons.mp ht with rfl | ht
    · rw [opL_none fun s hs (e : ix s = ix t) => nd.1 (List.mem_map.mpr ⟨s, hs, e⟩), Nat.testBit_two_pow]
      simp
    · have ne : ix t ≠ ix s := fun e => nd.1 (List.mem_map.mpr ⟨t, ht, e⟩)
      rw [opL_one nd.2 ht, Nat.testBit_two_pow]
      simp [ne]
theorem allT_nd (s : Bool) : ((allT s).map ix).Nodup := by cases s <;> decide
def mulC (c : Nat) (t : Tn) : List Tn → Nat
  | [] => 0
  | g :: r => (if c.testBit (ix g) = true then 2 ^ ix (mulT g t) else 0) ^^^ mulC c t r
theorem op_mul {w h c u : Nat} {t : Tn} (ht : t ∈ allT (decide (w = h))) : ∀ L : List Tn, (∀ g ∈ L, g ∈ allT (decide (w = h))) → opL w h (mulC c t L) u (allT (decide (w = h))) = ph w h t (opL w h c u L)
  | [], _ => by
    show opL w h 0 u _ = ph w h t 0
    rw [opL_zero, ph_zero ht]
  | g :: r, hl => by
    have hg := hl g (List.mem_cons_self ..)
    show opL w h ((if c.testBit (ix g) = true then 2 ^ ix (mulT g t) else 0) ^^^ mulC c t r) u _ = ph w h t ((if c.testBit (ix g) = true then ph w h g u else 0) ^^^ opL w h c u r)
    rw [opL_xor, op_mul ht r fun s hs => hl s (List.mem_cons_of_mem _ hs), ph_xor ht]
    congr 1
    cases c.testBit (ix g) with
    | true =>
      show opL w h (2 ^ ix (mulT g t)) u _ = ph w h t (ph w h g u)
      rw [opL_one (allT_nd _) (mul_mem hg ht), ph_mul hg ht]
    | false =>
      show opL w h 0 u _ = ph w h t 0
      rw [opL_zero, ph_zero ht]
/-- sums of numbers that such turnings make -/
inductive Dn (w h : Nat) (S : List Nat) : Nat → Prop
  | zero : Dn w h S 0
  | add {n c u : Nat} : Dn w h S n → c ∈ S → u < 2 ^ (w * h) → Dn w h S (n ^^^ opL w h c u (allT (decide (w = h))))
theorem Dn.xc (w h : Nat) (S : List Nat) : Xc (Dn w h S) := by
  refine ⟨.zero, fun a b ha hb => ?_⟩
  induction hb with
  | zero => rw [Nat.xor_zero]; exact ha
  | add hn hc hu ih => rw [← Nat.xor_assoc]; exact .add ih hc hu
def nextS (s : Bool) (S : List Nat) : List Nat := (S.flatMap fun c => (allT s).map fun t => c ^^^ mulC c t (allT s)).eraseDups
theorem Dn.step {w h n : Nat} {S S' : List Nat} (hn : Dn w h S n) {t : Tn} (ht : t ∈ allT (decide (w = h))) (hS : ∀ c ∈ S, c ^^^ mulC c t (allT (decide (w = h))) ∈ S') : Dn w h S' (n ^^^ ph w h t n) := by
  induction hn with
  | zero => rw [ph_zero ht]; exact .zero
  | add hn hc hu ih =>
    rename_i n c u
    rw [ph_xor ht]
    have ac : ∀ a b x y : Nat, (a ^^^ x) ^^^ (b ^^^ y) = (a ^^^ b) ^^^ (x ^^^ y) := fun a b x y => by
      rw [Nat.xor_assoc, Nat.xor_assoc, ← Nat.xor_assoc x b y, Nat.xor_comm x b, Nat.xor_assoc b x y]
    rw [ac, ← op_mul ht _ fun _ h => h, ← opL_xor]
    exact .add ih (hS c hc) hu
def Sk (s : Bool) : Nat → List Nat
  | 0 => [1]
  | k + 1 => nextS s (Sk s k)
theorem S5 (s : Bool) : ∀ c ∈ Sk s 5, c = 0 := by cases s <;> decide +kernel
theorem mem_next {s : Bool} {S : List Nat} {t : Tn} (ht : t ∈ allT s) : ∀ c ∈ S, c ^^^ mulC c t (allT s) ∈ nextS s S := fun c hc => by
  unfold nextS
  rw [List.mem_eraseDups]
  exact List.mem_flatMap.mpr ⟨c, hc, List.mem_map.mpr ⟨t, ht, rfl⟩⟩
theorem Dn.base {w h n : Nat} (hn : n < 2 ^ (w * h)) : Dn w h [1] n := by
  have h0 : ((false, 0) : Tn) ∈ allT (decide (w = h)) := mem_allT.mpr ⟨by decide, .inr rfl⟩
  have e : opL w h 1 n (allT (decide (w = h))) = n := by
    have := opL_one (w := w) (h := h) (u := n) (allT_nd (decide (w = h))) h0
    rw [ph_id hn] at this
    exact this
  have := Dn.add (w := w) (h := h) (S := [1]) (c := 1) .zero (List.mem_cons_self ..) hn
  rw [e, Nat.zero_xor] at this
  exact this
theorem Dn.end {w h n : Nat} {S : List Nat} (hS : ∀ c ∈ S, c = 0) (hn : Dn w h S n) : n = 0 := by
  induction hn with
  | zero => rfl
  | add _ hc _ ih => rw [ih, hS _ hc, opL_zero]; rfl
def lay (w h : Nat) : Nat → List Nat → List Nat
  | 0, L => L
  | k + 1, L => lay w h k (coreRows w h L)
theorem core_dn {w h k : Nat} {L : List Nat} (hL : ∀ r ∈ L, Dn w h (Sk (decide (w = h)) k) r) : ∀ r ∈ coreRows w h L, Dn w h (Sk (decide (w = h)) (k + 1)) r := by
  refine (Dn.xc w h _).joinAlls (fun _ h => nomatch h) fun n hn m hm => ?_
  obtain ⟨t, ht, rfl⟩ := List.mem_map.mp hm
  exact (hL n hn).step ht (mem_next ht)
theorem lay_dn {w h : Nat} : ∀ (j k : Nat) (L : List Nat), (∀ r ∈ L, Dn w h (Sk (decide (w = h)) k) r) → ∀ r ∈ lay w h j L, Dn w h (Sk (decide (w = h)) (k + j)) r
  | 0, _, _, hL => hL
  | j + 1, k, L, hL => by
    have := lay_dn j (k + 1) (coreRows w h L) (core_dn hL)
    rw [show k + (j + 1) = k + 1 + j from by omega]
    exact this
theorem lay_pl {w h : Nat} : ∀ (j : Nat) (L : List Nat), Pl (w * h) L → Pl (w * h) (lay w h j L)
  | 0, _, p => p
  | j + 1, L, p => lay_pl j _ (coreRows_pl p.lt)
/-- five cores down there is nothing -/
theorem lay5 {w h : Nat} {L : List Nat} (p : Pl (w * h) L) : lay w h 5 L = [] := by
  have d := lay_dn (w := w) (h := h) 5 0 L fun r hr => Dn.base (p.lt r hr)
  have q := lay_pl 5 L p
  cases e : lay w h 5 L with
  | nil => rfl
  | cons r l =>
    rw [e] at d q
    have h0 := Dn.end (S5 _) (d r (List.mem_cons_self ..))
    have := q.pos r (List.mem_cons_self ..)
    omega
end K19

set_option linter.all false
set_option maxRecDepth 100000
namespace MM
open PySem L2
/-- a list's items: taken as data, or of the heap -/
def LA (ah : AH) (a : D) (l : List D) : Prop := a = .lst l ∨ ∃ k, a = .ptr k ∧ ah[k]? = some (.lst l)
theorem LA.push {ah : AH} {a : D} {l : List D} (h : LA ah a l) (g : AH) : LA (ah ++ g) a l := h.imp_right fun ⟨k, e, hk⟩ => ⟨k, e, by rw [List.getElem?_append_left (List.getElem?_eq_some_iff.mp hk).1]; exact hk⟩
theorem LA.set {ah : AH} {a : D} {l : List D} {n : Nat} {c : Str} {f : List (Str × D)} {o : AO} (h : LA ah a l) (hn : ah[n]? = some (.ins c f)) : LA (ah.set n o) a l := h.imp_right fun ⟨k, e, hk⟩ => ⟨k, e, by
  rw [List.getElem?_set_ne]
  · exact hk
  · rintro rfl
    rw [hn] at hk
    cases hk⟩
theorem compC_map {C : AH → Bool} {g : D → DL → Option DL} {t : MT} {e : ME} {δ : DL} {ah : AH} {α : Type} {i : α → D} {f : α → D} (hC : C ah = true) : ∀ {l : List α}, (∀ x ∈ l, ∃ δ1, g (i x) δ = some δ1 ∧ t δ1 ah = some (true, ah) ∧ e δ1 ah = some (f x, ah)) → compGoC C g t e δ (l.map i) ah = some (l.map f, ah)
  | [], _ => by simp only [List.map_nil, compGoC, hC, if_true]
  | x :: r, h => by
    obtain ⟨δ1, h1, h2, h3⟩ := h x (List.mem_cons_self ..)
    have ih := compC_map (g := g) (t := t) (e := e) (δ := δ) (i := i) (f := f) hC (l := r) fun y hy => h y (List.mem_cons_of_mem _ hy)
    simp only [List.map_cons, compGoC, hC, h1, h2, h3, ih, Option.bind_some, Option.map_some, if_true]
theorem comp_LA {α : Type} {F G : α → D} {cs : List α} {a : D} {δ : DL} {ah : AH} {i : Nat} {g : D → DL → Option DL} {t : MT} {e : ME} {vs : List Nat} (v : δ[i]? = some (some a)) (h : LA ah a (cs.map F)) (hl : cs.length ≤ 100000) (st : ∀ x ∈ cs, ∃ δ1, g (F x) (wipeD δ vs) = some δ1 ∧ t δ1 ah = some (true, ah) ∧ e δ1 ah = some (G x, ah)) :
    orA (fComp (iAny (eVar i)) g t e vs) (fCompC (iPtr (eVar i)) g t e vs) δ ah = some (cs.map G, ah) := by
  have hv : eVar i δ ah = some (a, ah) := by simp [eVar, v]
  unfold orA
  rcases h with rfl | ⟨k, rfl, hk⟩
  · rw [(comp_ev (iAny_lst hv) (by rw [List.length_map]; exact hl)).trans (compGo_map st)]
  · have n1 : fComp (iAny (eVar i)) g t e vs δ ah = none := by
      have : iAny (eVar i) δ ah = none := by
        have k0 : asK ah (.ptr k) = none := by simp [asK, hk]
        simp [iAny, orA, iSeq, iKeysD, hv, gIter, k0]
      simp [fComp, this]
    rw [n1]
    have p1 : iPtr (eVar i) δ ah = some ((cs.map F, fun ah => decide (lstAt ah k = some (cs.map F))), ah) := by
      have l1 : lstAt ah k = some (cs.map F) := by simp [lstAt, hk]
      simp [iPtr, hv, l1]
    show (Option.bind (iPtr (eVar i) δ ah) _) = _
    rw [p1, Option.bind_some, if_pos (by rw [List.length_map]; exact hl)]
    exact compC_map (decide_eq_true (by simp [lstAt, hk])) st
theorem len_LA {δ : DL} {ah : AH} {i : Nat} {a : D} {l : List D} (v : δ[i]? = some (some a)) (h : LA ah a l) : e1 gLen (eVar i) δ ah = some (.int l.length, ah) := by
  have hv : eVar i δ ah = some (a, ah) := by simp [eVar, v]
  rcases h with rfl | ⟨k, rfl, hk⟩
  · exact len_lst hv
  · refine e1_ev hv ?_
    have hK : asK ah (.ptr k) = none := by simp [asK, hk]
    have hL : asL ah (.ptr k) = some l := by simp [asL, hk]
    simp [gLen, hK, hL]
theorem isL_LA {δ : DL} {ah : AH} {i : Nat} {a : D} {l : List D} (v : δ[i]? = some (some a)) (h : LA ah a l) : eIsB "list" (eVar i) δ ah = some (.bl true, ah) := by
  have hv : eVar i δ ah = some (a, ah) := by simp [eVar, v]
  unfold eIsB
  rw [hv, Option.bind_some]
  rcases h with rfl | ⟨k, rfl, hk⟩
  · rfl
  · have : tyN ah (.ptr k) = some "list" := by simp [tyN, hk]
    rw [this]
    rfl
end MM
namespace K19
open PySem L2 MM
open LM (mv1 moved Pl)
theorem ev_whole (n : Nat) (ah : AH) : f_is_whole [nD n] ah = some (.bl true, ah) := by
  have hs : s_is_whole [some (nD n)] ah = some (.rt (.bl true), ah) := by
    unfold s_is_whole
    exact ret_ev ((and_t rfl).trans rfl)
  exact (fn_rt rfl hs).trans (by rw [trim_self])
theorem ev_side {n : Nat} (h1 : 1 ≤ n) (h2 : n ≤ 6) (ah : AH) : f_is_side [nD n] ah = some (.bl true, ah) := by
  have hs : s_is_side [some (nD n)] ah = some (.rt (.bl true), ah) := by
    unfold s_is_side
    exact ret_ev ((and_t ((call_ev (cons_ev (var_ev rfl) (nil_ev _ _))).trans (ev_whole n ah))).trans (chain_t (i := 1) (j := n) (k := 6) rfl rfl rfl (by omega) (by omega)))
  exact (fn_rt rfl hs).trans (by rw [trim_self])
theorem ev_is_box {w h : Nat} (W : Wh w h) (ah : AH) : f_is_box [bxD w h] ah = some (.bl true, ah) := by
  have hs : s_is_box [some (bxD w h)] ah = some (.rt (.bl true), ah) := by
    unfold s_is_box
    refine ret_ev ((and_t rfl).trans ((and_t (bin_ev (len_tup (m := eVar 0) (l := [nD w, nD h]) rfl) rfl rfl)).trans ((and_t ((call_ev (cons_ev (ix_tup (m := eVar 0) (i := 0) rfl rfl rfl) (nil_ev _ _))).trans (ev_side W.w1 W.w6 ah))).trans ((call_ev (cons_ev (ix_tup (m := eVar 0) (i := 1) rfl rfl rfl) (nil_ev _ _))).trans (ev_side W.h1 W.h6 ah)))))
  exact (fn_rt rfl hs).trans (by rw [trim_self])
theorem fD_len {w h : Nat} {c : Cell} {δ : DL} {ah : AH} {m : ME} (hw : w ≤ 6) (hh : 1 ≤ h) (e : m δ ah = some (fD w h c, ah)) : e1 gLen (eIx m (eC (.int 0))) δ ah = some (nD w, ah) ∧ e1 gLen m δ ah = some (nD h, ah) := by
  constructor
  · have := len_str (m := eIx m (eC (.int 0))) (δ := δ) (ah := ah) (ix_tup e rfl (fD_row (y := 0) (by omega))) (by rw [rowS_len]; omega)
    rw [rowS_len] at this
    exact this
  · have := len_tup (m := m) (δ := δ) (ah := ah) e
    rw [List.length_map, List.length_range] at this
    exact this
theorem ev_face_of {w h : Nat} (W : Wh w h) {c : Cell} (ah : AH) : f_is_face_of [bxD w h, fD w h c] ah = some (.bl true, ah) := by
  obtain ⟨l1, l2⟩ := fD_len (c := c) (δ := [some (bxD w h), some (fD w h c)]) (ah := ah) (m := eVar 1) W.w6 W.h1 rfl
  have hs : s_is_face_of [some (bxD w h), some (fD w h c)] ah = some (.rt (.bl true), ah) := by
    unfold s_is_face_of
    refine ret_ev ((and_t ((call_ev (cons_ev (var_ev rfl) (nil_ev _ _))).trans (ev_is_face W.w1 W.w6 W.h1 W.h6 ah))).trans (bin_ev (tup_ev (cons_ev l1 (cons_ev l2 (nil_ev _ _))) (by simp)) (y := bxD w h) rfl ?_))
    unfold gEq
    rw [dEq_pb (n := 1) (by decide) rfl rfl]
    simp [bxD]
  exact (fn_rt rfl hs).trans (by rw [trim_self])
theorem ev_box_faces {w h : Nat} (W : Wh w h) {cs : List Cell} (hl : cs.length ≤ 60) {a : D} {ah : AH} (la : LA ah a (cs.map (fD w h))) : f_are_box_faces [bxD w h, a] ah = some (.bl true, ah) := by
  have t0 : tOrM (tNotM (tOf (eIsB "list" (eVar 1)))) (tOf (eBin gGt (e1 gLen (eVar 1)) (eC k_MOST_FACES))) [some (bxD w h), some a, none] ah = some (false, ah) := by
    refine (tor_f (tnot_ev (tof_ev (isL_LA rfl la)))).trans (tof_ev ((bin_ev (len_LA rfl la) (y := .int 60) rfl (z := .bl (decide ((60 : Int) < ((cs.map (fD w h)).length : Nat)))) rfl).trans ?_))
    rw [List.length_map, decide_eq_false (by omega)]
  have hs : s_are_box_faces [some (bxD w h), some a, none] ah = some (.rt (.bl true), ah) := by
    unfold s_are_box_faces
    refine (seq_skip t0).trans (ret_ev (e1_ev (x := .lst (cs.map fun _ => .bl true)) (frz_ev (comp_LA (G := fun _ => D.bl true) rfl la (by omega) fun c hc => ⟨[some (bxD w h), some a, some (fD w h c)], rfl, rfl, (call_ev (cons_ev (var_ev rfl) (cons_ev (var_ev rfl) (nil_ev _ _)))).trans (ev_face_of W ah)⟩)) ?_))
    have e : (cs.map fun _ => D.bl true) = (cs.map fun _ => true).map D.bl := by rw [List.map_map]; rfl
    rw [e, all_lst]
    simp
  exact (fn_rt rfl hs).trans (by rw [trim_self])
def lotF (w h : Nat) (L : List Nat) : List (Str × D) := [("frame", bxD w h), ("plain", nsD L)]
def lotD (w h : Nat) (L : List Nat) : D := .ins "Lot" (lotF w h L)
theorem setF (w h : Nat) : MM.setAttr "frame" (bxD w h) [] = ([("frame", bxD w h)] : List (Str × D)) := rfl
theorem setP (w h : Nat) (L : List Nat) : MM.setAttr "plain" (nsD L) [("frame", bxD w h)] = lotF w h L := by
  have e1 : ¬ (("frame" : Str) = "plain") := by decide +kernel
  simp [MM.setAttr, e1, lotF]
theorem setP2 (w h : Nat) (L M : List Nat) : MM.setAttr "plain" (nsD L) (lotF w h M) = lotF w h L := by
  have e1 : ¬ (("frame" : Str) = "plain") := by decide +kernel
  simp [MM.setAttr, e1, lotF]
theorem ev_linit {w h : Nat} (W : Wh w h) {cs : List Cell} (hl : cs.length ≤ 60) {a : D} {ah : AH} {n : Nat} (la : LA ah a (cs.map (fD w h))) (hn : ah[n]? = some (.ins "Lot" [])) : f_Lot___init__ [.ptr n, bxD w h, a] ah = some (.non, ah.set n (.ins "Lot" (lotF w h (lotRows w h (cs.map (bitsN w h)))))) := by
  have lt := (List.getElem?_eq_some_iff.mp hn).1
  have t0 : tNotM (tOf (eCall f_is_box (aCons (eVar 1) aNil))) [some (.ptr n), some (bxD w h), some a, none] ah = some (false, ah) := tnot_ev (b := true) (tof_ev ((call_ev (cons_ev (var_ev rfl) (nil_ev _ _))).trans (ev_is_box W ah)))
  have t1 : tNotM (tOf (eCall f_are_box_faces (aCons (eVar 1) (aCons (eVar 2) aNil)))) [some (.ptr n), some (bxD w h), some a, none] ah = some (false, ah) := tnot_ev (b := true) (tof_ev ((call_ev (cons_ev (var_ev rfl) (cons_ev (var_ev rfl) (nil_ev _ _)))).trans (ev_box_faces W hl la)))
  have s1 := sfld_ev (f := "frame") (c := "Lot") (mo := eVar 0) (mv := eVar 1) (δ := [some (.ptr n), some (bxD w h), some a, none]) rfl rfl hn (by simp) (setF w h)
  have n1 : (ah.set n (.ins "Lot" [("frame", bxD w h)]))[n]? = some (.ins "Lot" [("frame", bxD w h)]) := List.getElem?_set_self lt
  have la1 : LA (ah.set n (.ins "Lot" [("frame", bxD w h)])) a (cs.map (fD w h)) := la.set hn
  have cm : eFrz (orA (fComp (iAny (eVar 2)) (tgN 3) tYesM (eCall f_bits_of (aCons (eVar 3) aNil)) [3]) (fCompC (iPtr (eVar 2)) (tgN 3) tYesM (eCall f_bits_of (aCons (eVar 3) aNil)) [3])) [some (.ptr n), some (bxD w h), some a, none] (ah.set n (.ins "Lot" [("frame", bxD w h)])) = some (nsD (cs.map (bitsN w h)), ah.set n (.ins "Lot" [("frame", bxD w h)])) := by
    refine (frz_ev (comp_LA (G := fun c => nD (bitsN w h c)) rfl la1 (by omega) fun c hc => ⟨[some (.ptr n), some (bxD w h), some a, some (fD w h c)], rfl, rfl, (call_ev (cons_ev (var_ev rfl) (nil_ev _ _))).trans (ev_bits_of _)⟩)).trans ?_
    rw [nsD, List.map_map]
    rfl
  have s2 := sfld_ev (f := "plain") (c := "Lot") (mo := eVar 0) (mv := eCall f_lot_rows (aCons (eVar 1) (aCons (eFrz (orA (fComp (iAny (eVar 2)) (tgN 3) tYesM (eCall f_bits_of (aCons (eVar 3) aNil)) [3]) (fCompC (iPtr (eVar 2)) (tgN 3) tYesM (eCall f_bits_of (aCons (eVar 3) aNil)) [3]))) aNil))) (δ := [some (.ptr n), some (bxD w h), some a, none]) ((call_ev (cons_ev (var_ev rfl) (cons_ev cm (nil_ev _ _)))).trans (ev_lot_rows W _ _)) rfl n1 (by simp) (setP w h _)
  rw [List.set_set] at s2
  have hs : s_Lot___init__ [some (.ptr n), some (bxD w h), some a, none] ah = some (.nx [some (.ptr n), some (bxD w h), some a, none], ah.set n (.ins "Lot" (lotF w h (lotRows w h (cs.map (bitsN w h)))))) := by
    unfold s_Lot___init__
    exact (seq_nx (nil_t t0)).trans ((seq_nx (nil_t t1)).trans ((seq_nx s1).trans s2))
  exact (fn_nx rfl hs).trans (congrArg some (trim_len0 (List.length_set ..)))
theorem lotD_bd (n w h : Nat) (L : List Nat) : D.bd n (lotD w h L) = true := by
  have : D.bd n (nsD L) = true := nsD_bd n L
  simp [lotD, lotF, D.bd, D.bdF, bxD, nD, D.bds, this]
theorem mk_lot {w h : Nat} (W : Wh w h) {cs : List Cell} (hl : cs.length ≤ 60) {a : D} {ah : AH} {δ : DL} {ma : MA} (hb : Bd ah) (la : LA ah a (cs.map (fD w h))) (ha : ma δ ah = some ([bxD w h, a], ah)) : eMake "Lot" f_Lot___init__ ma δ ah = some (.ptr ah.length, ah ++ [.ins "Lot" (lotF w h (lotRows w h (cs.map (bitsN w h))))]) := by
  have i := ev_linit W hl (la.push [.ins "Lot" []]) (n := ah.length) (by simp)
  rw [set_end] at i
  unfold eMake
  rw [ha, Option.bind_some]
  simp only [i, Option.bind_some]
theorem mkF_lot {w h : Nat} (W : Wh w h) {cs : List Cell} (hl : cs.length ≤ 60) {a : D} {ah : AH} {δ : DL} {ma : MA} (hb : Bd ah) (la : LA ah a (cs.map (fD w h))) (ha : ma δ ah = some ([bxD w h, a], ah)) : eMkF "Lot" f_Lot___init__ ma δ ah = some (lotD w h (lotRows w h (cs.map (bitsN w h))), ah) := by
  show (eMake "Lot" f_Lot___init__ ma δ ah).bind _ = _
  rw [mk_lot W hl hb la ha, Option.bind_some]
  have fz : freeze (.ptr ah.length, ah ++ [.ins "Lot" (lotF w h (lotRows w h (cs.map (bitsN w h))))]) = some (lotD w h (lotRows w h (cs.map (bitsN w h))), ah ++ [.gone]) := by
    unfold freeze
    simp [lotD]
  rw [fz]
  exact congrArg some (trim_app (lotD_bd _ _ _ _) hb)
theorem ev_lot_from {w h : Nat} (W : Wh w h) (L : List Nat) {ah : AH} (hb : Bd ah) : f_lot_from [bxD w h, nsD L] ah = some (lotD w h L, ah) := by
  have s1 : sAsg (tgN 2) (eMake "Lot" f_Lot___init__ (aCons (eVar 0) (aCons (eFrz (fLst aNil)) aNil))) [some (bxD w h), some (nsD L), none] ah = some (.nx [some (bxD w h), some (nsD L), some (.ptr ah.length)], ah ++ [.ins "Lot" (lotF w h (lotRows w h []))]) := asg_ev (mk_lot W (cs := []) (a := .lst []) (by simp) hb (.inl rfl) (cons_ev (var_ev rfl) (cons_ev rfl (nil_ev _ _))))
  have s2 := sfld_ev (f := "plain") (c := "Lot") (mo := eVar 2) (mv := eVar 1) (δ := [some (bxD w h), some (nsD L), some (.ptr ah.length)]) (ah := ah ++ [.ins "Lot" (lotF w h (lotRows w h []))]) (k := ah.length) (l := lotF w h (lotRows w h [])) rfl rfl (by simp) (by simp [lotF]) (setP2 w h L _)
  rw [set_end] at s2
  have hs : s_lot_from [some (bxD w h), some (nsD L), none] ah = some (.rt (lotD w h L), ah ++ [.gone]) := by
    unfold s_lot_from
    refine (seq_nx s1).trans ((seq_nx s2).trans (ret_ev ?_))
    unfold eFreeze
    rw [var_ev (d := .ptr ah.length) rfl, Option.bind_some]
    unfold freeze
    simp [lotD]
  exact (fn_rt rfl hs).trans (congrArg some (trim_app (lotD_bd _ _ _ _) hb))
end K19

set_option linter.all false
set_option maxRecDepth 100000
namespace MM
open PySem L2
theorem idxPlast {m : ME} {δ : DL} {ah ah1 : AH} {b : Nat} {l : List D} {d : D} (hm : m δ ah = some (.ptr b, ah1)) (hl : ah1[b]? = some (.lst (l ++ [d]))) : eIx m (eNeg (eC (.int 1))) δ ah = some (d, ah1) := by
  refine bin_ev hm (y := .int (-1)) rfl ?_
  have hK : asK ah1 (.ptr b) = none := by simp [asK, hl]
  have hL : asL ah1 (.ptr b) = some (l ++ [d]) := by simp [asL, hl]
  unfold gIx
  rw [hK]
  show (asL ah1 (.ptr b)).bind (fun l => atI l (-1)) = _
  rw [hL, Option.bind_some]
  have e : (l ++ [d]).length = l.length + 1 := by simp
  unfold atI ixN
  rw [e]
  have e2 : ((-1 : Int) + ((l.length + 1 : Nat) : Int)).toNat = l.length := by omega
  rw [if_neg (by decide), if_pos (by omega), Option.bind_some, e2]
  exact List.getElem?_concat_length
end MM
namespace K19
open PySem L2 MM
open LM (mv1 moved Pl)
theorem ne_frame {m : Str} (a : (m == "frame") = false) (b : (m == "plain") = false) {w h : Nat} {L : List Nat} : (lotF w h L).lookup m = none := by
  unfold lotF
  rw [List.lookup_cons, a]
  show List.lookup m [("plain", nsD L)] = none
  rw [List.lookup_cons, b]
  rfl
theorem lmeth {w h : Nat} {L : List Nat} {m : Str} {mf : MF} {mo : ME} {ma : MA} {δ : DL} {ah ah1 ah2 : AH} {ds : List D} (e : mo δ ah = some (lotD w h L, ah1)) (a : (m == "frame") = false) (b : (m == "plain") = false) (ha : ma δ ah1 = some (ds, ah2)) : eMeth [("Lot", mf)] m mo ma δ ah = mf (lotD w h L :: ds) ah2 := meth_ev e rfl (ne_frame a b) ha
theorem lfrm {w h : Nat} {L : List Nat} {mo : ME} {δ : DL} {ah ah1 : AH} (e : mo δ ah = some (lotD w h L, ah1)) : eFld ["Lot"] "frame" mo δ ah = some (bxD w h, ah1) := fld_ev e rfl (by simp [lotF])
theorem lpln {w h : Nat} {L : List Nat} {mo : ME} {δ : DL} {ah ah1 : AH} (e : mo δ ah = some (lotD w h L, ah1)) : eFld ["Lot"] "plain" mo δ ah = some (nsD L, ah1) := fld_ev e rfl (by
  have e1 : (("plain" : Str) == "frame") = false := by decide +kernel
  show List.lookup ("plain" : Str) (lotF w h L) = _
  unfold lotF
  rw [List.lookup_cons, e1]
  simp)
def faceN (w h n : Nat) : D := fD w h (cellN w h n)
section
variable {w h : Nat} {L : List Nat}
theorem faces_map (W : Wh w h) {δ : DL} {ah : AH} {m : ME} {g : D → DL → Option DL} {t : MT} {e : ME} {vs : List Nat} {ns : List Nat} (hm : m δ ah = some (nsD ns, ah)) (hl : ns.length ≤ 1000) (st : ∀ n ∈ ns, ∃ δ1, g (nD n) (wipeD δ vs) = some δ1 ∧ t δ1 ah = some (true, ah) ∧ e δ1 ah = some (faceN w h n, ah)) : eFrz (fComp (iAny m) g t e vs) δ ah = some (.lst (ns.map (faceN w h)), ah) :=
  frz_ev ((comp_ev (iAny_lst hm) (by rw [List.length_map]; omega)).trans (compGo_map st))
theorem ev_Lrows (W : Wh w h) (p : Pl (w * h) L) (ah : AH) : f_Lot_rows [lotD w h L] ah = some (.lst (L.map (faceN w h)), ah) := by
  have wh : w * h ≤ 36 := Nat.mul_le_mul W.w6 W.h6
  have := p.len
  have hs : s_Lot_rows [some (lotD w h L), none] ah = some (.rt (.lst (L.map (faceN w h))), ah) := by
    unfold s_Lot_rows
    exact ret_ev (faces_map W (lpln (var_ev rfl)) (by omega) fun n hn => ⟨[some (lotD w h L), some (nD n)], rfl, rfl, (call_ev (cons_ev (lfrm (var_ev rfl)) (cons_ev (var_ev rfl) (nil_ev _ _)))).trans (ev_face_from W n ah)⟩)
  exact (fn_rt rfl hs).trans (by rw [trim_self])
theorem ev_Ldoub (ah : AH) : f_Lot_doublings [lotD w h L] ah = some (nD L.length, ah) := by
  have hs : s_Lot_doublings [some (lotD w h L)] ah = some (.rt (nD L.length), ah) := by
    unfold s_Lot_doublings
    have := len_lst (lpln (w := w) (h := h) (L := L) (mo := eVar 0) (δ := [some (lotD w h L)]) (ah := ah) (var_ev rfl))
    rw [List.length_map] at this
    exact ret_ev this
  exact (fn_rt rfl hs).trans (by rw [trim_self])
theorem ev_Lbox (ah : AH) : f_Lot_box [lotD w h L] ah = some (bxD w h, ah) := by
  have hs : s_Lot_box [some (lotD w h L)] ah = some (.rt (bxD w h), ah) := by
    unfold s_Lot_box
    exact ret_ev (lfrm (var_ev rfl))
  exact (fn_rt rfl hs).trans (by rw [trim_self])
theorem ev_Lhas (W : Wh w h) (p : Pl (w * h) L) (c : Cell) (ah : AH) : f_Lot_has [lotD w h L, fD w h c] ah = some (.bl (decide (LM.sift L (bitsN w h c) = 0)), ah) := by
  have wh : w * h ≤ 36 := Nat.mul_le_mul W.w6 W.h6
  have hs : s_Lot_has [some (lotD w h L), some (fD w h c)] ah = some (.rt (.bl (decide (LM.sift L (bitsN w h c) = 0))), ah) := by
    unfold s_Lot_has
    refine ret_ev ((bin_ev ((call_ev (cons_ev (lpln (var_ev rfl)) (cons_ev ((call_ev (cons_ev (var_ev rfl) (nil_ev _ _))).trans (ev_bits_of ah)) (nil_ev _ _)))).trans (ev_siftP p (by omega) ah)) (y := .int 0) rfl (z := .bl (decide (((LM.sift L (bitsN w h c) : Nat) : Int) = 0))) rfl).trans ?_)
    have : decide (((LM.sift L (bitsN w h c) : Nat) : Int) = 0) = decide (LM.sift L (bitsN w h c) = 0) := decide_eq_decide.mpr (by omega)
    rw [this]
  exact (fn_rt rfl hs).trans (by rw [trim_self])
theorem ev_Lcore (W : Wh w h) (p : Pl (w * h) L) {ah : AH} (hb : Bd ah) : f_Lot_core [lotD w h L] ah = some (lotD w h (coreRows w h L), ah) := by
  have hs : s_Lot_core [some (lotD w h L)] ah = some (.rt (lotD w h (coreRows w h L)), ah) := by
    unfold s_Lot_core
    exact ret_ev ((call_ev (cons_ev (lfrm (var_ev rfl)) (cons_ev ((call_ev (cons_ev (lfrm (var_ev rfl)) (cons_ev (lpln (var_ev rfl)) (nil_ev _ _)))).trans (ev_core_rows W p.lt ah)) (nil_ev _ _)))).trans (ev_lot_from W _ hb))
  exact (fn_rt rfl hs).trans (by rw [trim_self])
theorem ev_Lagainst (W : Wh w h) (p : Pl (w * h) L) {ah : AH} (hb : Bd ah) : f_Lot_against [lotD w h L] ah = some (lotD w h (agRows w h L), ah) := by
  have hs : s_Lot_against [some (lotD w h L)] ah = some (.rt (lotD w h (agRows w h L)), ah) := by
    unfold s_Lot_against
    exact ret_ev ((call_ev (cons_ev (lfrm (var_ev rfl)) (cons_ev ((call_ev (cons_ev (lfrm (var_ev rfl)) (cons_ev (lpln (var_ev rfl)) (nil_ev _ _)))).trans (ev_against W p ah)) (nil_ev _ _)))).trans (ev_lot_from W _ hb))
  exact (fn_rt rfl hs).trans (by rw [trim_self])
theorem ev_Lstill (W : Wh w h) (p : Pl (w * h) L) {ah : AH} (hb : Bd ah) : f_Lot_still [lotD w h L] ah = some (lotD w h (metRows w h L (stillRows w h)), ah) := by
  have hs : s_Lot_still [some (lotD w h L)] ah = some (.rt (lotD w h (metRows w h L (stillRows w h))), ah) := by
    unfold s_Lot_still
    exact ret_ev ((call_ev (cons_ev (lfrm (var_ev rfl)) (cons_ev ((call_ev (cons_ev (lfrm (var_ev rfl)) (cons_ev (lpln (var_ev rfl)) (cons_ev ((call_ev (cons_ev (lfrm (var_ev rfl)) (nil_ev _ _))).trans (ev_still_rows W hb)) (nil_ev _ _))))).trans (ev_met W p (still_pl w h) ah)) (nil_ev _ _)))).trans (ev_lot_from W _ hb))
  exact (fn_rt rfl hs).trans (by rw [trim_self])
theorem ev_Lnumber (W : Wh w h) (p : Pl (w * h) L) (c : Cell) (ah : AH) : f_Lot_number_of [lotD w h L, fD w h c] ah = some (if LM.sift L (bitsN w h c) = 0 then nD (LM.numb L (bitsN w h c)) else .non, ah) := by
  have wh : w * h ≤ 36 := Nat.mul_le_mul W.w6 W.h6
  have t := tnot_ev (tof_ev ((lmeth (mf := f_Lot_has) (m := "has") (ma := aCons (eVar 1) aNil) (mo := eVar 0) (δ := [some (lotD w h L), some (fD w h c), none, none, none]) (ah := ah) (var_ev rfl) (by decide +kernel) (by decide +kernel) (cons_ev (var_ev rfl) (nil_ev _ _))).trans (ev_Lhas W p c ah)))
  suffices hs : s_Lot_number_of [some (lotD w h L), some (fD w h c), none, none, none] ah = some (.rt (if LM.sift L (bitsN w h c) = 0 then nD (LM.numb L (bitsN w h c)) else .non), ah) from (fn_rt rfl hs).trans (by rw [trim_self])
  unfold s_Lot_number_of
  by_cases h0 : LM.sift L (bitsN w h c) = 0
  · rw [decide_eq_true h0] at t
    rw [if_pos h0]
    have s2 : sAsg (tgN 2) (eCall f_bits_of (aCons (eVar 1) aNil)) [some (lotD w h L), some (fD w h c), none, none, none] ah = some (.nx [some (lotD w h L), some (fD w h c), some (nD (bitsN w h c)), none, none], ah) := asg_ev ((call_ev (cons_ev (var_ev rfl) (nil_ev _ _))).trans (ev_bits_of ah))
    generalize bitsN w h c = N at *
    obtain ⟨δ', e, x, rfl⟩ := for_fold (g := tgN 4) (b := sAsg (tgN 3) (eBin gAdd (eBin gMul (eC (.int 2)) (eVar 3)) (e1 gInt (eBin gNe (eBin gAnd (eVar 2) (eCall f_top_bit (aCons (eVar 4) aNil))) (eC (.int 0)))))) (i := nD) (f := fun f r => 2 * f + (N.testBit r.log2).toNat) (J := fun f δ => ∃ x, δ = [some (lotD w h L), some (fD w h c), some (nD N), some (nD f), x]) (ah := ah) (l := L) (s := 0) (δ := [some (lotD w h L), some (fD w h c), some (nD N), some (nD 0), none]) ⟨_, rfl⟩ (by
      rintro r hr f δ ⟨x, rfl⟩
      refine ⟨_, [some (lotD w h L), some (fD w h c), some (nD N), some (nD (2 * f + (N.testBit r.log2).toNat)), some (nD r)], rfl, asg_ev (addn (muln (cn 2) (n := 2) (k := f) rfl (.inl (by decide))) ?_), _, rfl⟩
      have bt2 := bit_testE (a := eVar 2) (b := eCall f_top_bit (aCons (eVar 4) aNil)) (δ := [some (lotD w h L), some (fD w h c), some (nD N), some (nD f), some (nD r)]) (ah := ah) (n := N) (k := r.log2) rfl ((call_ev (cons_ev (var_ev rfl) (nil_ev _ _))).trans (ev_topP (p.pos r hr) (p.lt r hr) (by omega) ah))
      refine e1_ev bt2 ?_
      cases N.testBit r.log2 <;> rfl)
    exact (seq_nx (nil_t t)).trans ((seq_nx s2).trans ((seq_nx (asg_ev (cn 0))).trans ((seq_nx ((for_ev (iAny_lst (l := L.map nD) (lpln (var_ev rfl)))).trans e)).trans (ret_ev (var_ev rfl)))))
  · rw [decide_eq_false h0] at t
    rw [if_neg h0]
    exact seq_take t (ret_ev rfl)
end
end K19

set_option linter.all false
set_option maxRecDepth 100000
namespace K19
open PySem L2 MM
open LM (mv1 moved Pl)
section
variable {w h : Nat} {L : List Nat}
theorem rv_lst {m : ME} {δ : DL} {ah ah1 : AH} {l : List D} (e : m δ ah = some (.lst l, ah1)) : eRv m δ ah = some (.lst l.reverse, ah1) := by
  have a1 : eRevS m δ ah = none := by
    unfold eRevS
    rw [e]
    rfl
  unfold eRv orE
  rw [a1]
  refine frz_ev ?_
  unfold fRev
  rw [e]
  rfl
theorem ev_Lmember (W : Wh w h) (p : Pl (w * h) L) {n : Nat} (hn : n / 2 ^ L.length = 0) (ah : AH) : f_Lot_member [lotD w h L, nD n] ah = some (faceN w h (LM.memb L n), ah) := by
  have wh : w * h ≤ 36 := Nat.mul_le_mul W.w6 W.h6
  have t0 : tOrM (tOf (eBin gLt (eVar 1) (eC (.int 0)))) (tOf (eBin gGt (eBin gShr (eVar 1) (e1 gLen (eFld ["Lot"] "plain" (eVar 0)))) (eC (.int 0)))) [some (lotD w h L), some (nD n), none, none, none] ah = some (false, ah) := by
    have a : tOf (eBin gLt (eVar 1) (eC (.int 0))) [some (lotD w h L), some (nD n), none, none, none] ah = some (false, ah) := by
      refine tof_ev ((bin_ev (x := nD n) (y := .int 0) rfl rfl (z := .bl (decide ((n : Int) < 0))) rfl).trans ?_)
      rw [decide_eq_false (by omega)]
    have ln := len_lst (lpln (w := w) (h := h) (L := L) (mo := eVar 0) (δ := [some (lotD w h L), some (nD n), none, none, none]) (ah := ah) (var_ev rfl))
    rw [List.length_map] at ln
    have b : tOf (eBin gGt (eBin gShr (eVar 1) (e1 gLen (eFld ["Lot"] "plain" (eVar 0)))) (eC (.int 0))) [some (lotD w h L), some (nD n), none, none, none] ah = some (false, ah) := by
      have e := shrn (a := eVar 1) (n := n) (k := L.length) rfl ln
      rw [hn] at e
      exact tof_ev (bin_ev e rfl rfl)
    exact (tor_f a).trans b
  obtain ⟨δ', e, x, rfl⟩ := for_fold (g := tgN 4) (b := sSeq (sIf (tOf (eBin gEq (eBin gAnd (eVar 2) (eC (.int 1))) (eC (.int 1)))) (sAsg (tgN 3) (eBin gXor (eVar 3) (eVar 4))) sNil) (sAsg (tgN 2) (eBin gShr (eVar 2) (eC (.int 1))))) (i := nD) (f := LM.memb1) (J := fun s δ => ∃ x, δ = [some (lotD w h L), some (nD n), some (nD s.1), some (nD s.2), x]) (ah := ah) (l := L.reverse) (s := (n, 0)) (δ := [some (lotD w h L), some (nD n), some (nD n), some (nD 0), none]) ⟨_, rfl⟩ (by
    rintro r hr ⟨a, f⟩ δ ⟨x, rfl⟩
    have t : tOf (eBin gEq (eBin gAnd (eVar 2) (eC (.int 1))) (eC (.int 1))) [some (lotD w h L), some (nD n), some (nD a), some (nD f), some (nD r)] ah = some (decide (a % 2 = 1), ah) := by
      refine (eqn (andn (a := eVar 2) (n := a) rfl (cn 1)) (cn 1)).trans ?_
      rw [Nat.and_one_is_mod]
    have s1 : sIf (tOf (eBin gEq (eBin gAnd (eVar 2) (eC (.int 1))) (eC (.int 1)))) (sAsg (tgN 3) (eBin gXor (eVar 3) (eVar 4))) sNil [some (lotD w h L), some (nD n), some (nD a), some (nD f), some (nD r)] ah = some (.nx [some (lotD w h L), some (nD n), some (nD a), some (nD (if a % 2 = 1 then f ^^^ r else f)), some (nD r)], ah) := by
      by_cases ha : a % 2 = 1
      · rw [decide_eq_true ha] at t
        rw [if_pos ha]
        exact (if_t t).trans (asg_ev (xorn (n := f) (k := r) rfl rfl))
      · rw [decide_eq_false ha] at t
        rw [if_neg ha]
        exact nil_t' t
    have s2 := asg_ev (i := 2) (shrn (a := eVar 2) (b := eC (.int ((1 : Nat) : Int))) (δ := [some (lotD w h L), some (nD n), some (nD a), some (nD (if a % 2 = 1 then f ^^^ r else f)), some (nD r)]) (ah := ah) (n := a) rfl (cn 1))
    rw [Nat.pow_one] at s2
    exact ⟨_, [some (lotD w h L), some (nD n), some (nD (a / 2)), some (nD (if a % 2 = 1 then f ^^^ r else f)), some (nD r)], rfl, (seq_nx s1).trans s2, _, rfl⟩)
  have rv : iAny (eRv (eFld ["Lot"] "plain" (eVar 0))) [some (lotD w h L), some (nD n), some (nD n), some (nD 0), none] ah = some (L.reverse.map nD, ah) := by
    refine (iAny_lst (rv_lst (lpln (w := w) (h := h) (L := L) (var_ev rfl)))).trans ?_
    rw [List.map_reverse]
  have hs : s_Lot_member [some (lotD w h L), some (nD n), none, none, none] ah = some (.rt (faceN w h (LM.memb L n)), ah) := by
    unfold s_Lot_member
    exact (seq_nx (nil_t t0)).trans ((seq_nx (asg_ev (d := nD n) (var_ev rfl))).trans ((seq_nx (asg_ev (cn 0))).trans ((seq_nx ((for_ev rv).trans e)).trans (ret_ev ((call_ev (cons_ev (lfrm (w := w) (h := h) (L := L) (var_ev rfl)) (cons_ev (var_ev rfl) (nil_ev _ _)))).trans (ev_face_from W _ ah))))))
  exact (fn_rt rfl hs).trans (by rw [trim_self])
theorem ev_Lcomb (W : Wh w h) (p : Pl (w * h) L) (c : Cell) (ah : AH) : f_Lot_comb [lotD w h L, fD w h c] ah = some (if LM.sift L (bitsN w h c) = 0 then .non else faceN w h (LM.combAt L (LM.sift L (bitsN w h c)).log2), ah) := by
  have wh : w * h ≤ 36 := Nat.mul_le_mul W.w6 W.h6
  have s1 : sAsg (tgN 2) (eCall f_sifted (aCons (eFld ["Lot"] "plain" (eVar 0)) (aCons (eCall f_bits_of (aCons (eVar 1) aNil)) aNil))) [some (lotD w h L), some (fD w h c), none] ah = some (.nx [some (lotD w h L), some (fD w h c), some (nD (LM.sift L (bitsN w h c)))], ah) := asg_ev ((call_ev (cons_ev (lpln (var_ev rfl)) (cons_ev ((call_ev (cons_ev (var_ev rfl) (nil_ev _ _))).trans (ev_bits_of ah)) (nil_ev _ _)))).trans (ev_siftP p (by omega) ah))
  suffices hs : s_Lot_comb [some (lotD w h L), some (fD w h c), none] ah = some (.rt (if LM.sift L (bitsN w h c) = 0 then .non else faceN w h (LM.combAt L (LM.sift L (bitsN w h c)).log2)), ah) from (fn_rt rfl hs).trans (by rw [trim_self])
  have sl : LM.sift L (bitsN w h c) < 2 ^ (w * h) := LM.sift_lt p.lt (bitsN_lt w h c)
  unfold s_Lot_comb
  generalize LM.sift L (bitsN w h c) = x at *
  have t := eqn (δ := [some (lotD w h L), some (fD w h c), some (nD x)]) (ah := ah) (a := eVar 2) (n := x) (k := 0) rfl (cn 0)
  refine (seq_nx s1).trans ?_
  by_cases h0 : x = 0
  · rw [decide_eq_true h0] at t
    rw [if_pos h0]
    exact seq_take t (ret_ev rfl)
  · rw [decide_eq_false h0] at t
    rw [if_neg h0]
    exact (seq_skip t).trans (ret_ev ((call_ev (cons_ev (lfrm (w := w) (h := h) (L := L) (var_ev rfl)) (cons_ev ((call_ev (cons_ev (lpln (w := w) (h := h) (L := L) (var_ev rfl)) (cons_ev ((call_ev (cons_ev (var_ev rfl) (nil_ev _ _))).trans (ev_topP (by omega) sl (by omega) ah)) (nil_ev _ _)))).trans (ev_comb_at p (by omega) ah)) (nil_ev _ _)))).trans (ev_face_from W _ ah)))
/-! ### layers -/
def lays (w h : Nat) : Nat → List Nat → List (List Nat)
  | 0, L => [L]
  | k + 1, L => if L = [] then [L] else L :: lays w h k (coreRows w h L)
theorem lays_len : ∀ (k : Nat) (L : List Nat), (lays w h k L).length ≤ k + 1
  | 0, _ => Nat.le_refl _
  | k + 1, L => by
    have := lays_len k (coreRows w h L)
    unfold lays
    split
    · simp
    · simp; omega
theorem lays_pl : ∀ (k : Nat) (L : List Nat), Pl (w * h) L → ∀ M ∈ lays w h k L, Pl (w * h) M
  | 0, L, p, M, hM => by rw [List.mem_singleton.mp hM]; exact p
  | k + 1, L, p, M, hM => by
    unfold lays at hM
    split at hM
    · rw [List.mem_singleton.mp hM]; exact p
    · rcases List.mem_cons.mp hM with rfl | hM
      · exact p
      · exact lays_pl k _ (coreRows_pl p.lt) M hM
theorem lay_loop (W : Wh w h) {x : D} {ah : AH} (hb : Bd ah) : ∀ (k fuel : Nat) (L : List Nat) (done : List (List Nat)), lay w h k L = [] → Pl (w * h) L → k < fuel → done.length + k ≤ 100 →
    whGo (tOf (eBin gNe (eFld ["Lot"] "plain" (eIx (eVar 1) (eNeg (eC (.int 1))))) (eFrz (fLst aNil)))) (sExpr (eMut gAppend (eVar 1) (aCons (eMeth [("Lot", f_Lot_core)] "core" (eIx (eVar 1) (eNeg (eC (.int 1)))) aNil) aNil))) fuel [some x, some (.ptr ah.length)] (ah ++ [.lst ((done ++ [L]).map (lotD w h))]) = some (.nx [some x, some (.ptr ah.length)], ah ++ [.lst ((done ++ lays w h k L).map (lotD w h))]) := by
  intro k
  induction k with
  | zero =>
    intro fuel L done hL p hf hd
    obtain ⟨f, rfl⟩ : ∃ f, fuel = f + 1 := ⟨fuel - 1, by omega⟩
    have hL : L = [] := hL
    subst hL
    have at_ : (ah ++ [AO.lst ((done ++ [[]]).map (lotD w h))])[ah.length]? = some (.lst (done.map (lotD w h) ++ [lotD w h []])) := by simp
    have c : tOf (eBin gNe (eFld ["Lot"] "plain" (eIx (eVar 1) (eNeg (eC (.int 1))))) (eFrz (fLst aNil))) [some x, some (.ptr ah.length)] (ah ++ [.lst ((done ++ [[]]).map (lotD w h))]) = some (false, ah ++ [.lst ((done ++ [[]]).map (lotD w h))]) := by
      refine tof_ev (bin_ev (lpln (idxPlast (var_ev rfl) at_)) (y := .lst []) rfl ?_)
      unfold gNe
      rw [dEq_pb (n := 1) (by decide) rfl rfl]
      simp [nsD]
    show (Option.bind (tOf _ _ _) _) = _
    rw [c]
    rfl
  | succ k ih =>
    intro fuel L done hL p hf hd
    obtain ⟨f, rfl⟩ : ∃ f, fuel = f + 1 := ⟨fuel - 1, by omega⟩
    have at_ : (ah ++ [AO.lst ((done ++ [L]).map (lotD w h))])[ah.length]? = some (.lst (done.map (lotD w h) ++ [lotD w h L])) := by simp
    have c : tOf (eBin gNe (eFld ["Lot"] "plain" (eIx (eVar 1) (eNeg (eC (.int 1))))) (eFrz (fLst aNil))) [some x, some (.ptr ah.length)] (ah ++ [.lst ((done ++ [L]).map (lotD w h))]) = some (!decide (L = []), ah ++ [.lst ((done ++ [L]).map (lotD w h))]) := by
      refine tof_ev (bin_ev (lpln (idxPlast (var_ev rfl) at_)) (y := .lst []) rfl ?_)
      have hp : pb 1 (nsD L) = true := by
        show (L.map nD).all (pb 0) = true
        rw [List.all_map]
        exact List.all_eq_true.mpr fun _ _ => rfl
      unfold gNe
      rw [dEq_pb (n := 1) (by decide) hp rfl, Option.map_some]
      congr 3
      refine decide_eq_decide.mpr ⟨fun e => ?_, fun e => by rw [e]; rfl⟩
      have := D.lst.inj e
      exact List.map_eq_nil_iff.mp this
    show (Option.bind (tOf _ _ _) _) = _
    rw [c, Option.bind_some]
    unfold lays
    by_cases h0 : L = []
    · rw [if_pos h0, decide_eq_true h0]
      rfl
    · rw [if_neg h0, decide_eq_false h0]
      have hb2 : Bd (ah ++ [AO.lst ((done ++ [L]).map (lotD w h))]) := hb.push (by
        show D.bds _ _ = true
        exact bds_map (fun M => lotD_bd _ w h M) _)
      have ap := exp_ev (app_ev (k := 1) (e := eMeth [("Lot", f_Lot_core)] "core" (eIx (eVar 1) (eNeg (eC (.int 1)))) aNil) (δ := [some x, some (.ptr ah.length)]) (ah := ah) (acc := (done ++ [L]).map (lotD w h)) (d := lotD w h (coreRows w h L)) rfl ((lmeth (w := w) (h := h) (L := L) (idxPlast (var_ev rfl) at_) (by decide +kernel) (by decide +kernel) (nil_ev _ _)).trans (ev_Lcore W p hb2)) (by simp; omega))
      show (Option.bind (sExpr _ _ _) _) = _
      rw [ap, Option.bind_some]
      have := ih f (coreRows w h L) (done ++ [L]) hL (coreRows_pl p.lt) (by omega) (by simp; omega)
      rw [List.append_assoc] at this
      rw [← List.append_assoc, List.map_append] at this
      rw [List.append_assoc done [L] (lays w h k (coreRows w h L))] at this
      exact this
theorem ev_Llayers (W : Wh w h) (p : Pl (w * h) L) {ah : AH} (hb : Bd ah) : f_Lot_layers [lotD w h L] ah = some (.lst ((lays w h 5 L).map (lotD w h)), ah) := by
  have s1 : sAsg (tgN 1) (eOwn (fLst (aCons (eCall f_lot_from (aCons (eFld ["Lot"] "frame" (eVar 0)) (aCons (eFrz (f1 gList (eFld ["Lot"] "plain" (eVar 0)))) aNil))) aNil))) [some (lotD w h L), none] ah = some (.nx [some (lotD w h L), some (.ptr ah.length)], ah ++ [.lst (([] ++ [L]).map (lotD w h))]) := asg_ev (own_ev (lst_ev (cons_ev ((call_ev (cons_ev (lfrm (var_ev rfl)) (cons_ev (frz_ev (f1_ev (lpln (var_ev rfl)) rfl)) (nil_ev _ _)))).trans (ev_lot_from W L hb)) (nil_ev _ _)) (by simp)))
  have lp := lay_loop W (x := lotD w h L) hb 5 100000 L [] (lay5 p) p (by decide) (by decide)
  rw [List.nil_append] at lp
  have hs : s_Lot_layers [some (lotD w h L), none] ah = some (.rt (.lst ((lays w h 5 L).map (lotD w h))), ah ++ [.gone]) := by
    unfold s_Lot_layers
    refine (seq_nx s1).trans ((seq_nx lp).trans (ret_ev ?_))
    unfold eFreeze
    rw [var_ev (d := .ptr ah.length) rfl, Option.bind_some, freeze_end, List.nil_append]
  refine (fn_rt rfl hs).trans (congrArg some (trim_app ?_ hb))
  show D.bds _ _ = true
  exact bds_map (fun M => lotD_bd _ w h M) _
end
end K19

set_option linter.all false
set_option maxRecDepth 100000
namespace K19
open PySem L2 MM
open LM (mv1 moved Pl)
theorem div_evW {a b : ME} {δ : DL} {ah ah1 ah2 : AH} {i j : Int} (h1 : a δ ah = some (.int i, ah1)) (h2 : b δ ah1 = some (.int j, ah2)) (hj : 0 < j) (hj2 : j < 2 ^ 64) : eBin gDiv a b δ ah = some (.int (i / j), ah2) := by
  refine bin_ev h1 h2 ?_
  have : j.natAbs.log2 < 9000 := by
    have q : j.natAbs.log2 < 64 := (Nat.log2_lt (by omega)).mpr (by omega)
    omega
  simp [gIc, hj, this]
theorem ev_takeW {ah : AH} {b : Nat} {many : Int} (hb : BagAt ah b) (h0 : 1 ≤ many) (h1 : many ≤ 2 ^ 60) : ∃ r ah', f__law_take [.ptr b, .int many] ah = some (.int r, ah') ∧ 0 ≤ r ∧ r < many ∧ Bg b ah ah' := by
  obtain ⟨v0, v1, v2, cs, e, ok⟩ := id hb
  have lt := hb.lt
  -- the first part
  have part : ∃ x v0' v1' v2', 0 ≤ v0' ∧ 0 ≤ v1' ∧ 0 ≤ v2' ∧ (sIf (tOf (eBin gEq (eIx (eVar 0) (eC (.int 0))) (eC (.int 0)))) (sSeq (sAsg (tgN 4) (eC (.int 0))) (sSeq (sIf (tOf (eBin gLt (eIx (eVar 0) (eC (.int 2))) (e1 gLen (eIx (eVar 0) (eC (.int 3)))))) (sAsg (tgN 4) (eIx (eIx (eVar 0) (eC (.int 3))) (eIx (eVar 0) (eC (.int 2))))) sNil) (sSeq (sAugL (eVar 0) (eC (.int 2)) (eC (.int 1))) (sSeq (sIf (tOf (eBin gGe (eVar 4) (eC (.int 1000000000000000000)))) (sSubL (eVar 0) (eC (.int 0)) (eVar 4)) sNil) (sSubL (eVar 0) (eC (.int 1)) (eBin gMod (eBin gAdd (eBin gAdd (eBin gMul (eIx (eVar 0) (eC (.int 1))) (eC (.int 48271))) (eBin gMod (eVar 4) (eC (.int 2147483647)))) (eBin gMul (eC (.int 7919)) (eIx (eVar 0) (eC (.int 2))))) (eC (.int 2147483647)))))))) sNil) [some (.ptr b), some (.int many), none, none, none, none] ah = some (.nx [some (.ptr b), some (.int many), none, none, x, none], ah.set b (.lst (bagL v0' v1' v2' cs))) := by
    have t0 : tOf (eBin gEq (eIx (eVar 0) (eC (.int 0))) (eC (.int 0))) [some (.ptr b), some (.int many), none, none, none, none] ah = some (decide (v0 = 0), ah) := tof_ev (bin_ev (bag_ix (i := 0) rfl e rfl) rfl rfl)
    by_cases hv : v0 = 0
    · have c1 : ∃ c : Int, 0 ≤ c ∧ sIf (tOf (eBin gLt (eIx (eVar 0) (eC (.int 2))) (e1 gLen (eIx (eVar 0) (eC (.int 3)))))) (sAsg (tgN 4) (eIx (eIx (eVar 0) (eC (.int 3))) (eIx (eVar 0) (eC (.int 2))))) sNil [some (.ptr b), some (.int many), none, none, some (.int 0), none] ah = some (.nx [some (.ptr b), some (.int many), none, none, some (.int c), none], ah) := by
        have ln := len_lst (bag_ix (δ := [some (.ptr b), some (.int many), none, none, some (.int 0), none]) (i := 3) rfl e rfl)
        rw [List.length_map] at ln
        have t : tOf (eBin gLt (eIx (eVar 0) (eC (.int 2))) (e1 gLen (eIx (eVar 0) (eC (.int 3))))) [some (.ptr b), some (.int many), none, none, some (.int 0), none] ah = some (decide (v2 < (cs.length : Nat)), ah) := tof_ev (bin_ev (bag_ix (i := 2) rfl e rfl) ln rfl)
        by_cases hc : v2 < (cs.length : Nat)
        · have hv2 := ok.c
          have hn : v2.toNat < cs.length := by omega
          have iv : eIx (eVar 0) (eC (.int 2)) [some (.ptr b), some (.int many), none, none, some (.int 0), none] ah = some (.int (v2.toNat : Nat), ah) := (bag_ix (i := 2) rfl e rfl).trans (by rw [Int.toNat_of_nonneg hv2])
          refine ⟨cs[v2.toNat], ok.d _ (List.getElem_mem hn), ?_⟩
          rw [decide_eq_true hc] at t
          exact (if_t t).trans (asg_ev (ix_lst (i := v2.toNat) (bag_ix (i := 3) rfl e rfl) iv (by simp [hn])))
        · rw [decide_eq_false hc] at t
          exact ⟨0, Int.le_refl _, (if_f t).trans rfl⟩
      obtain ⟨c, hc, c1⟩ := c1
      rw [decide_eq_true hv] at t0
      have a1 := augL_ev (δ := [some (.ptr b), some (.int many), none, none, some (.int c), none]) (b := b) (i := 2) (y := 1) rfl e rfl
      have g1 : (ah.set b (.lst ((bagL v0 v1 v2 cs).set 2 (.int (v2 + 1)))))[b]? = some (.lst (bagL v0 v1 (v2 + 1) cs)) := List.getElem?_set_self lt
      have c2 : ∃ v0', 0 ≤ v0' ∧ sIf (tOf (eBin gGe (eVar 4) (eC (.int 1000000000000000000)))) (sSubL (eVar 0) (eC (.int 0)) (eVar 4)) sNil [some (.ptr b), some (.int many), none, none, some (.int c), none] (ah.set b (.lst ((bagL v0 v1 v2 cs).set 2 (.int (v2 + 1))))) = some (.nx [some (.ptr b), some (.int many), none, none, some (.int c), none], ah.set b (.lst (bagL v0' v1 (v2 + 1) cs))) := by
        have t : tOf (eBin gGe (eVar 4) (eC (.int 1000000000000000000))) [some (.ptr b), some (.int many), none, none, some (.int c), none] (ah.set b (.lst ((bagL v0 v1 v2 cs).set 2 (.int (v2 + 1))))) = some (decide ((1000000000000000000 : Int) ≤ c), (ah.set b (.lst ((bagL v0 v1 v2 cs).set 2 (.int (v2 + 1)))))) := tof_ev (bin_ev (x := .int c) rfl rfl rfl)
        by_cases hg : (1000000000000000000 : Int) ≤ c
        · rw [decide_eq_true hg] at t
          refine ⟨c, hc, (if_t t).trans ((subL_ev (i := 0) rfl g1 (by simp [bagL]) rfl).trans ?_)⟩
          rw [List.set_set]
          rfl
        · rw [decide_eq_false hg] at t
          exact ⟨v0, ok.a, (if_f t).trans rfl⟩
      obtain ⟨v0', hv0', c2⟩ := c2
      have g2 : (ah.set b (.lst (bagL v0' v1 (v2 + 1) cs)))[b]? = some (.lst (bagL v0' v1 (v2 + 1) cs)) := List.getElem?_set_self lt
      have m1 := mod_ev (add_int (add_int (mul_ev (bag_ix (δ := [some (.ptr b), some (.int many), none, none, some (.int c), none]) (i := 1) rfl g2 rfl) (b := eC (.int 48271)) rfl (.inr (by decide))) (mod_ev (a := eVar 4) (i := c) (b := eC (.int 2147483647)) rfl rfl (by decide))) (mul_ev (a := eC (.int 7919)) rfl (bag_ix (i := 2) rfl g2 rfl) (.inl (by decide)))) (b := eC (.int 2147483647)) rfl (by decide)
      refine ⟨some (.int c), v0', (v1 * 48271 + c % 2147483647 + 7919 * (v2 + 1)) % 2147483647, v2 + 1, hv0', Int.emod_nonneg _ (by decide), by have := ok.c; omega, (if_t t0).trans ((seq_nx (asg_ev rfl)).trans ((seq_nx c1).trans ((seq_nx a1).trans ((seq_nx c2).trans ((subL_ev (i := 1) rfl g2 (by simp [bagL]) m1).trans ?_)))))⟩
      rw [List.set_set]
      rfl
    · rw [decide_eq_false hv] at t0
      refine ⟨none, v0, v1, v2, ok.a, ok.b, ok.c, (nil_t t0).trans ?_⟩
      congr 2
      exact (List.ext_getElem? fun i => by
        by_cases hi : b = i
        · subst hi
          rw [List.getElem?_set_self lt, e]
        · rw [List.getElem?_set_ne hi])
  obtain ⟨x, w0, w1, w2, p0, p1, p2, part⟩ := part
  have g : (ah.set b (.lst (bagL w0 w1 w2 cs)))[b]? = some (.lst (bagL w0 w1 w2 cs)) := List.getElem?_set_self lt
  have t3 : tOf (eBin gGt (eIx (eVar 0) (eC (.int 0))) (eC (.int 0))) [some (.ptr b), some (.int many), none, none, x, none] (ah.set b (.lst (bagL w0 w1 w2 cs))) = some (decide (0 < w0), (ah.set b (.lst (bagL w0 w1 w2 cs)))) := tof_ev (bin_ev (bag_ix (i := 0) rfl g rfl) rfl rfl)
  by_cases hw : 0 < w0
  · rw [decide_eq_true hw] at t3
    have whole : s__law_take [some (.ptr b), some (.int many), none, none, none, none] ah = some (.rt (.int (w0 % many)), ah.set b (.lst (bagL (w0 / many) w1 w2 cs))) := by
      unfold s__law_take
      refine (seq_nx part).trans (seq_take t3 ?_)
      refine (seq_nx (asg_ev (mod_ev (bag_ix (i := 0) rfl g rfl) (b := eVar 1) (j := many) rfl (by omega)))).trans ?_
      have sb := subL_ev (δ := [some (.ptr b), some (.int many), none, none, x, some (.int (w0 % many))]) (i := 0) rfl g (by simp [bagL]) (div_evW (bag_ix (i := 0) rfl g rfl) (b := eVar 1) (j := many) rfl (by omega) (by omega))
      rw [List.set_set] at sb
      exact (seq_nx sb).trans (ret_ev (d := .int (w0 % many)) rfl)
    exact ⟨w0 % many, _, (fn_rt rfl whole).trans (congrArg some (trim_len0 (List.length_set ..))), Int.emod_nonneg _ (by omega), Int.emod_lt_of_pos _ (by omega), hb, .inr ⟨_, _, _, _, ⟨Int.ediv_nonneg (by omega) (by omega), p1, p2, ok.d⟩, rfl⟩⟩
  · rw [decide_eq_false hw] at t3
    have f1 := mod_ev (mul_ev (add_int (bag_ix (δ := [some (.ptr b), some (.int many), none, none, x, none]) (i := 1) rfl g rfl) (b := eC (.int 1)) rfl) (b := eC (.int 39373)) rfl (.inr (by decide))) (b := eC (.int 1000000007)) rfl (by decide)
    generalize hf : (w1 + 1) * 39373 % 1000000007 = fst at f1
    have hf0 : 0 ≤ fst := by rw [← hf]; exact Int.emod_nonneg _ (by decide)
    have hf1 : fst < 1000000007 := by rw [← hf]; exact Int.emod_lt_of_pos _ (by decide)
    have s1 := mod_ev (mul_ev (mod_ev (mul_ev (a := eVar 2) (b := eVar 2) (i := fst) (j := fst) (δ := [some (.ptr b), some (.int many), some (.int fst), none, x, none]) (ah := ah.set b (.lst (bagL w0 w1 w2 cs))) rfl rfl (.inl ⟨by omega, by omega⟩)) (b := eC (.int 998244353)) rfl (by decide)) (b := eC (.int 30011)) rfl (.inr (by decide))) (b := eC (.int 998244353)) rfl (by decide)
    generalize hs2 : fst * fst % 998244353 * 30011 % 998244353 = snd at s1
    have sn0 : 0 ≤ snd := by rw [← hs2]; exact Int.emod_nonneg _ (by decide)
    have sn1 : snd < 998244353 := by rw [← hs2]; exact Int.emod_lt_of_pos _ (by decide)
    have t5 : tOf (eBin gGt (eVar 1) (eC (.int 1000000))) [some (.ptr b), some (.int many), some (.int fst), some (.int snd), x, none] (ah.set b (.lst (bagL w0 w1 w2 cs))) = some (decide ((1000000 : Int) < many), ah.set b (.lst (bagL w0 w1 w2 cs))) := tof_ev (bin_ev (x := .int many) rfl rfl rfl)
    by_cases hm : (1000000 : Int) < many
    · rw [decide_eq_true hm] at t5
      have whole : s__law_take [some (.ptr b), some (.int many), none, none, none, none] ah = some (.rt (.int ((snd * 1000000007 + fst) % many)), ah.set b (.lst (bagL w0 w1 w2 cs))) := by
        unfold s__law_take
        refine (seq_nx part).trans ((seq_skip t3).trans ((seq_nx (asg_ev f1)).trans ((seq_nx (asg_ev s1)).trans (seq_take t5 (ret_ev ?_)))))
        exact mod_ev (add_int (mul_ev (a := eVar 3) (i := snd) (b := eC (.int 1000000007)) rfl rfl (.inl ⟨by omega, by omega⟩)) (b := eVar 2) (j := fst) rfl) (b := eVar 1) (j := many) rfl (by omega)
      exact ⟨(snd * 1000000007 + fst) % many, _, (fn_rt rfl whole).trans (congrArg some (trim_len0 (List.length_set ..))), Int.emod_nonneg _ (by omega), Int.emod_lt_of_pos _ (by omega), hb, .inr ⟨_, _, _, _, ⟨p0, p1, p2, ok.d⟩, rfl⟩⟩
    · rw [decide_eq_false hm] at t5
      have whole : s__law_take [some (.ptr b), some (.int many), none, none, none, none] ah = some (.rt (.int (snd / 7 % many)), ah.set b (.lst (bagL w0 w1 w2 cs))) := by
        unfold s__law_take
        refine (seq_nx part).trans ((seq_skip t3).trans ((seq_nx (asg_ev f1)).trans ((seq_nx (asg_ev s1)).trans ((seq_skip t5).trans (ret_ev ?_)))))
        exact mod_ev (div_ev (a := eVar 3) (i := snd) (b := eC (.int 7)) rfl rfl (by decide) (by decide)) (b := eVar 1) (j := many) rfl (by omega)
      exact ⟨snd / 7 % many, _, (fn_rt rfl whole).trans (congrArg some (trim_len0 (List.length_set ..))), Int.emod_nonneg _ (by omega), Int.emod_lt_of_pos _ (by omega), hb, .inr ⟨_, _, _, _, ⟨p0, p1, p2, ok.d⟩, rfl⟩⟩
theorem take_evW {δ : DL} {ah : AH} {b i : Nat} {m : ME} {many : Int} (hb : BagAt ah b) (v : δ[i]? = some (some (.ptr b))) (hm : m δ ah = some (.int many, ah)) (h0 : 1 ≤ many) (h1 : many ≤ 2 ^ 60) : ∃ (r : Nat) (ah' : AH), eCall f__law_take (aCons (eVar i) (aCons m aNil)) δ ah = some (.int (r : Nat), ah') ∧ (r : Int) < many ∧ Bg b ah ah' := by
  obtain ⟨r, ah', e, p, q, g⟩ := ev_takeW hb h0 h1
  refine ⟨r.toNat, ah', ?_, by omega, g⟩
  rw [Int.toNat_of_nonneg p]
  exact (call_ev (cons_ev (var_ev v) (cons_ev hm (nil_ev _ _)))).trans e
theorem ev_boxM {ah : AH} {b : Nat} {most : Nat} (m1 : 1 ≤ most) (m2 : most ≤ 6) (hb : BagAt ah b) : ∃ (w h : Nat) (ah' : AH), f__law_box [.ptr b, .int (most : Nat)] ah = some (.tup [.int w, .int h], ah') ∧ 1 ≤ w ∧ w ≤ most ∧ 1 ≤ h ∧ h ≤ most ∧ Bg b ah ah' := by
  obtain ⟨r1, ah1, t1, l1, g1⟩ := take_ev (δ := [some (.ptr b), some (.int (most : Nat)), none]) (i := 0) (m := eVar 1) hb rfl rfl (many := (most : Nat)) (by omega) (by omega)
  obtain ⟨r2, ah2, t2, l2, g2⟩ := take_ev (δ := [some (.ptr b), some (.int (most : Nat)), some (.int ((r1 + 1 : Nat) : Int))]) (i := 0) (m := eVar 1) g1.at' rfl rfl (many := (most : Nat)) (by omega) (by omega)
  obtain ⟨r3, ah3, t3, l3, g3⟩ := take_ev (δ := [some (.ptr b), some (.int (most : Nat)), some (.int ((r1 + 1 : Nat) : Int))]) (i := 0) (m := eC (.int 3)) g2.at' rfl rfl (many := 3) (by decide) (by decide)
  have p1 : eBin gAdd (eC (.int 1)) (eCall f__law_take (aCons (eVar 0) (aCons (eVar 1) aNil))) [some (.ptr b), some (.int (most : Nat)), none] ah = some (.int ((r1 + 1 : Nat) : Int), ah1) := (add_int rfl t1).trans (by rw [Int.natCast_succ, Int.add_comm])
  have p2 : eBin gAdd (eC (.int 1)) (eCall f__law_take (aCons (eVar 0) (aCons (eVar 1) aNil))) [some (.ptr b), some (.int (most : Nat)), some (.int ((r1 + 1 : Nat) : Int))] ah1 = some (.int ((r2 + 1 : Nat) : Int), ah2) := (add_int rfl t2).trans (by rw [Int.natCast_succ, Int.add_comm])
  have p3 : ∃ h : Nat, 1 ≤ h ∧ h ≤ most ∧ [D.int ((r1 + 1 : Nat) : Int), .int ((r1 + 1 : Nat) : Int), .int ((r2 + 1 : Nat) : Int)][r3]? = some (.int h) := by
    match r3, l3 with
    | 0, _ => exact ⟨r1 + 1, by omega, by omega, rfl⟩
    | 1, _ => exact ⟨r1 + 1, by omega, by omega, rfl⟩
    | 2, _ => exact ⟨r2 + 1, by omega, by omega, rfl⟩
    | n + 3, l => omega
  obtain ⟨h, h1, h2, p3⟩ := p3
  have hs : s__law_box [some (.ptr b), some (.int (most : Nat)), none] ah = some (.rt (.tup [.int ((r1 + 1 : Nat) : Int), .int h]), ah3) := by
    unfold s__law_box
    refine (seq_nx (asg_ev p1)).trans (ret_ev (tup_ev (cons_ev (var_ev rfl) (cons_ev (idx3 (frz_ev (lst_ev (cons_ev (var_ev rfl) (cons_ev (var_ev rfl) (cons_ev p2 (nil_ev _ _)))) (by simp))) t3 p3) (nil_ev _ _))) (by simp)))
  have g := g1.trans (g2.trans g3)
  exact ⟨r1 + 1, h, ah3, (fn_rt rfl hs).trans (congrArg some (trim_len0 g.len)), by omega, by omega, h1, h2, g⟩
end K19

set_option linter.all false
set_option maxRecDepth 100000
namespace MM
open PySem L2
theorem gIn_str {n : Nat} {ah : AH} {a : Str} {l : List D} (hn : n ≤ 60) (hx : pb n (.str a) = true) (hl : l.all (pb n) = true) : gIn ah (.str a) (.lst l) = some (.bl (decide ((.str a : D) ∈ l))) := by
  obtain ⟨p, e1, c1, d1⟩ := pb_py n (.str a) hx
  obtain ⟨q, e2, c2, d2⟩ := pb_py (n + 1) (.lst l) (by simpa [pb] using hl)
  obtain ⟨ps, e3, rfl⟩ := Option.map_eq_some_iff.mp (show (D.pys l).map PyData.list = some q by simpa [D.py] using e2)
  have sh : (SeqAt.shaped p && SeqAt.shaped (.list ps)) = true := by
    simp only [SeqAt.shaped, Bool.and_eq_true, decide_eq_true_eq]
    exact ⟨⟨c1, by omega⟩, c2, by omega⟩
  have anyE : ∀ (l : List D) (ps : List PyData), l.all (pb n) = true → D.pys l = some ps → (ps.any fun z => PyData.eqv z p) = decide ((.str a : D) ∈ l) := fun l => by
    induction l with
    | nil =>
      intro ps _ e
      simp only [D.pys, Option.some.injEq] at e
      subst e
      rfl
    | cons b r ih =>
      intro ps hl e
      simp only [D.pys] at e
      obtain ⟨p', h1, h2⟩ := Option.bind_eq_some_iff.mp e
      obtain ⟨ps', h3, rfl⟩ := Option.map_eq_some_iff.mp h2
      rw [List.all_cons, Bool.and_eq_true] at hl
      rw [List.any_cons, pb_eqv n b (.str a) p' p hl.1 hx h1 e1, ih ps' hl.2 h3]
      rw [Bool.eq_iff_iff, Bool.or_eq_true, decide_eq_true_eq, decide_eq_true_eq, decide_eq_true_eq, List.mem_cons]
      exact or_congr ⟨Eq.symm, Eq.symm⟩ Iff.rfl
  have core : dIn ah (.str a) (.lst l) = some (decide ((.str a : D) ∈ l)) := by
    show ((topPy ah (.str a)).bind fun p => (asL ah (.lst l)).bind fun l => (D.pys l).bind fun ps => if (SeqAt.shaped p && SeqAt.shaped (.list ps)) = true then some (ps.any fun z => PyData.eqv z p) else none) = _
    rw [show topPy ah (.str a) = some p from e1, Option.bind_some]
    show ((D.pys l).bind _) = _
    rw [e3, Option.bind_some, if_pos sh, anyE l ps hl e3]
  rw [gIn, core]
  rfl
end MM
namespace K19
open PySem L2 MM
open LM (mv1 moved Pl)
section
variable {w h : Nat}
theorem tz_pb (t : Tn) (ht : t.2 ≤ 3) : True := trivial
/-- a face's images -/
theorem ev_images (W : Wh w h) (c : Cell) {ah : AH} (hb : Bd ah) : ∃ ds : List Cell, ds.length = (allT (decide (w = h))).length ∧ f__law_images [fD w h c] ah = some (.lst (ds.map (fD w h)), ah) := by
  have pick : ∀ t : Tn, ∃ c', t ∈ allT (decide (w = h)) → fB (turnB t.1 t.2 (w, h, c)) = fD w h c' := fun t => by
    by_cases ht : t ∈ allT (decide (w = h))
    · obtain ⟨-, c', e⟩ := spin_ok ht c
      exact ⟨c', fun _ => e⟩
    · exact ⟨c, fun h => absurd h ht⟩
  have F := fun t => (pick t).choose_spec
  refine ⟨(allT (decide (w = h))).map fun t => (pick t).choose, by simp, ?_⟩
  obtain ⟨l1, l2⟩ := fD_len (c := c) (δ := [some (fD w h c), none]) (ah := ah) (m := eVar 0) W.w6 W.h1 rfl
  have hs : s__law_images [some (fD w h c), none] ah = some (.rt (.lst (((allT (decide (w = h))).map fun t => (pick t).choose).map (fD w h))), ah) := by
    unfold s__law_images
    refine ret_ev (frz_ev ((comp_ev (iAny_lst ((call_ev (cons_ev (tup_ev (cons_ev l1 (cons_ev l2 (nil_ev _ _))) (by simp)) (nil_ev _ _))).trans (ev_lturnings w h ah))) (by have := (allT_len (decide (w = h))).2; simp; omega)).trans ?_))
    rw [List.map_map]
    refine compGo_map (f := fun t => fD w h (pick t).choose) fun t ht => ⟨[some (fD w h c), some (.str (tz t.1 t.2))], rfl, rfl, ?_⟩
    obtain ⟨q3, -⟩ := spin_ok ht c
    have sp := ev_spun (b := (w, h, c)) ⟨W.w1, W.w6, W.h1, W.h6⟩ t.1 q3 hb
    rw [F t ht] at sp
    exact (call_ev (cons_ev (var_ev rfl) (cons_ev (var_ev rfl) (nil_ev _ _)))).trans sp
  exact (fn_rt rfl hs).trans (by rw [trim_self])
/-- up where any is -/
def anyC (cs : List Cell) : Cell := fun x y => cs.any fun c => c x y
theorem fD_cell {m i j : ME} {δ : DL} {ah : AH} {c : Cell} {x y : Nat} (hw : w ≤ 6) (hx : x < w) (hy : y < h) (em : m δ ah = some (fD w h c, ah)) (ei : i δ ah = some (nD y, ah)) (ej : j δ ah = some (nD x, ah)) : eIx (eIx m i) j δ ah = some (.str ⟨#[sg (c x y)]⟩, ah) :=
  ix_str (ix_tup em ei (fD_row hy)) ej (by rw [rowS_len]; omega) (rowS_get hx)
theorem ev_lwhole (W : Wh w h) {cs : List Cell} (h0 : 0 < cs.length) (hl : cs.length ≤ 100) {ah : AH} (hb : Bd ah) : f__law_whole [.lst (cs.map (fD w h))] ah = some (fD w h (anyC cs), ah) := by
  have w6 := W.w6; have h6 := W.h6
  have at0 : (cs.map (fD w h))[0]? = some (fD w h cs[0]) := by simp [h0]
  obtain ⟨δ', ⟨a', b', c', rfl⟩, hlp⟩ := app_loop (g := tgN 2) (k := 1) (e := eJoin (eC (.str "")) (eFrz (fComp (iRng1M (e1 gLen (eIx (eIx (eVar 0) (eC (.int 0))) (eVar 2)))) (tgN 3) tYesM (eIx (eC (.str ".o")) (e1 gInt (eBin gIn (eC (.str "o")) (eFrz (fComp (iAny (eVar 0)) (tgN 4) tYesM (eIx (eIx (eVar 4) (eVar 2)) (eVar 3)) [4]))))) [3]))) (i := nD) (F := fun y => .str (rowS w fun x => anyC cs x y)) (ah := ah)
    (J := fun δ => ∃ a b c, δ = [some (.lst (cs.map (fD w h))), some (.ptr ah.length), a, b, c]) (l := List.range h) (acc := []) (δ := [some (.lst (cs.map (fD w h))), some (.ptr ah.length), none, none, none]) ⟨_, _, _, rfl⟩ (by simp; omega) (by
      rintro y hy δ ⟨a, b, c, rfl⟩
      have hy' := List.mem_range.mp hy
      refine ⟨[some (.lst (cs.map (fD w h))), some (.ptr ah.length), some (nD y), b, c], rfl, ⟨_, _, _, rfl⟩, rfl, fun ah1 => ?_⟩
      have ln := len_str (m := eIx (eIx (eVar 0) (eC (.int 0))) (eVar 2)) (δ := [some (.lst (cs.map (fD w h))), some (.ptr ah.length), some (nD y), b, c]) (ah := ah1) (ix_tup (idx3 (m := eVar 0) (i := 0) rfl rfl at0) (i := y) rfl (fD_row hy')) (by rw [rowS_len]; omega)
      rw [rowS_len] at ln
      refine (join_ev (f := fun x => sg (anyC cs x y)) (l := List.range w) rfl (frz_ev ((comp_ev (rng1 ln (by omega)) (by simp; omega)).trans (compGo_map (i := fun x : Nat => D.int (x : Nat)) fun x hx => ?_))) (by simp; omega)).trans rfl
      have hx' := List.mem_range.mp hx
      refine ⟨[some (.lst (cs.map (fD w h))), some (.ptr ah.length), some (nD y), some (nD x), c], rfl, rfl, ix_o ?_⟩
      have inner : eFrz (fComp (iAny (eVar 0)) (tgN 4) tYesM (eIx (eIx (eVar 4) (eVar 2)) (eVar 3)) [4]) [some (.lst (cs.map (fD w h))), some (.ptr ah.length), some (nD y), some (nD x), c] ah1 = some (.lst (cs.map fun c => .str ⟨#[sg (c x y)]⟩), ah1) := by
        refine frz_ev ((comp_ev (iAny_lst (var_ev rfl)) (by rw [List.length_map]; omega)).trans ?_)
        exact compGo_map fun c1 _ => ⟨[some (.lst (cs.map (fD w h))), some (.ptr ah.length), some (nD y), some (nD x), some (fD w h c1)], rfl, rfl, fD_cell w6 hx' hy' (m := eVar 4) rfl rfl rfl⟩
      refine bin_ev rfl inner ?_
      rw [gIn_str (n := 0) (by decide) (by decide +kernel) (by
        rw [List.all_map]
        refine List.all_eq_true.mpr fun c1 _ => ?_
        show pb 0 (.str ⟨#[sg (c1 x y)]⟩) = true
        cases c1 x y <;> decide +kernel)]
      congr 2
      unfold anyC
      rw [Bool.eq_iff_iff, decide_eq_true_eq, List.any_eq_true, List.mem_map]
      constructor
      · rintro ⟨c1, h1, h2⟩
        refine ⟨c1, h1, ?_⟩
        have := D.str.inj h2
        cases e : c1 x y with
        | true => rfl
        | false => rw [e] at this; exact absurd this (by decide +kernel)
      · rintro ⟨c1, h1, h2⟩
        refine ⟨c1, h1, ?_⟩
        rw [h2]
        rfl)
  have len_f : e1 gLen (eIx (eVar 0) (eC (.int 0))) [some (.lst (cs.map (fD w h))), some (.ptr ah.length), none, none, none] (ah ++ [.lst []]) = some (nD h, ah ++ [.lst []]) := by
    have := len_tup (m := eIx (eVar 0) (eC (.int 0))) (δ := [some (.lst (cs.map (fD w h))), some (.ptr ah.length), none, none, none]) (ah := ah ++ [.lst []]) (idx3 (m := eVar 0) (i := 0) rfl rfl at0)
    rw [List.length_map, List.length_range] at this
    exact this
  have whole : s__law_whole [some (.lst (cs.map (fD w h))), none, none, none, none] ah = some (.rt (fD w h (anyC cs)), ah ++ [.lst ((List.range h).map fun y => .str (rowS w fun x => anyC cs x y))]) := by
    unfold s__law_whole
    refine (seq_nx (asg_ev (own_ev (l := []) (ah1 := ah) rfl))).trans ?_
    exact (seq_nx ((for_ev (rng1 len_f (by omega))).trans hlp)).trans (ret_ev (tup_ptr rfl))
  exact (fn_rt rfl whole).trans (congrArg some (trim_app (d := fD w h (anyC cs)) (fD_bd _ _ _ _) hb))
end
end K19

set_option linter.all false
set_option maxRecDepth 100000
namespace K19
open PySem L2 MM
open LM (mv1 moved Pl)
section
variable {w h b : Nat}
def sdS (m b w h L : Nat) (x4 x5 x6 x7 : Option D) : DL := [some (.ptr b), some (bxD w h), some (nD m), some (.ptr L), x4, x5, x6, x7]
theorem faces_bds (n : Nat) (cs : List Cell) : D.bds n (cs.map (fD w h)) = true := bds_map (fun c => fD_bd n w h c) cs
theorem ev_seeds {m : Nat} (hm : m ≤ 8) (W : Wh w h) {ah : AH} (hBd : Bd ah) (hb : BagAt ah b) : ∃ (cs : List Cell) (ah' : AH), f__law_seeds [.ptr b, bxD w h, nD m] ah = some (.lst (cs.map (fD w h)), ah') ∧ cs.length ≤ m ∧ Bg b ah ah' := by
  have w6 := W.w6; have h6 := W.h6
  have aT := allT_len (decide (w = h))
  have s1 : sAsg (tgN 3) (eOwn (fLst aNil)) [some (.ptr b), some (bxD w h), some (nD m), none, none, none, none, none] ah = some (.nx (sdS m b w h ah.length none none none none), ah ++ [.lst []]) := asg_ev (own_ev (l := []) rfl)
  obtain ⟨r0, A0, t0, l0, g0⟩ := take_app (δ := sdS m b w h ah.length none none none none) (G := [AO.lst []]) (i := 0) (m := eBin gAdd (eVar 2) (eC (.int 1))) hb rfl (many := ((m + 1 : Nat) : Int)) rfl (by omega) (by omega)
  obtain ⟨δ', H', e, hI⟩ := for_foldI (N := r0) (g := tgN 4) (b := (sSeq (sAsg (tgN 5) (eCall f__law_take (aCons (eVar 0) (aCons (eC (.int 7)) aNil)))) (sSeq (sAsg (tgN 6) (eCall f__law_face (aCons (eVar 0) (aCons (eVar 1) aNil)))) (sSeq (sAsg (tgN 7) (eCall f__law_images (aCons (eVar 6) aNil))) (sSeq (sIf (tOf (eBin gEq (eVar 5) (eC (.int 0)))) (sAsg (tgN 6) (eCall f__law_over (aCons (eVar 6) (aCons (eVar 6) aNil)))) (sIf (tOf (eBin gEq (eVar 5) (eC (.int 1)))) (sAsg (tgN 6) (eCall f__law_over (aCons (eVar 6) (aCons (eIx (eVar 7) (eCall f__law_take (aCons (eVar 0) (aCons (e1 gLen (eVar 7)) aNil)))) aNil)))) (sIf (tOf (eBin gEq (eVar 5) (eC (.int 2)))) (sAsg (tgN 6) (eCall f__law_whole (aCons (eVar 7) aNil))) (sIf (tAndM (tOf (eBin gEq (eVar 5) (eC (.int 3)))) (tOf (eBin gNe (eVar 3) (eFrz (fLst aNil))))) (sAsg (tgN 6) (eIx (eCall f__law_images (aCons (eIx (eVar 3) (eNeg (eC (.int 1)))) aNil)) (eCall f__law_take (aCons (eVar 0) (aCons (e1 gLen (eVar 7)) aNil))))) sNil)))) (sExpr (eMut gAppend (eVar 3) (aCons (eVar 6) aNil))))))))
    (i := nD) (f := fun (u : Unit) _ => u) (J := fun k _ δ H => ∃ A cs x4 x5 x6 x7, H = A ++ [.lst (cs.map (fD w h))] ∧ Bg b ah A ∧ cs.length = k ∧ δ = sdS m b w h ah.length x4 x5 x6 x7) (l := List.range r0) (k := 0) (s := ()) (δ := sdS m b w h ah.length none none none none) (ah := A0 ++ [.lst []]) (by simp) ⟨A0, [], _, _, _, _, rfl, g0, rfl, rfl⟩ (by
    rintro kk hkk k _ δ H hk ⟨A, cs, x4, x5, x6, x7, rfl, gA, hl, rfl⟩
    have k4 : k < m := by omega
    have lA := gA.len
    -- the draws
    obtain ⟨r5, A5, t5, l5, g5⟩ := take_app (δ := sdS m b w h ah.length (some (nD kk)) x5 x6 x7) (G := [AO.lst (cs.map (fD w h))]) (i := 0) (m := eC (.int 7)) gA.at' rfl rfl (many := 7) (by decide) (by decide)
    obtain ⟨c0, H6, e6, -, g6⟩ := ev_lface (ah := A5 ++ [.lst (cs.map (fD w h))]) W.w1 W.w6 W.h1 W.h6 g5.at'.app
    obtain ⟨A6, rfl, gg6⟩ := g6.app g5.at'
    have gA6 := gA.trans (g5.trans gg6)
    have lA6 := gA6.len
    have bd6 : Bd (A6 ++ [.lst (cs.map (fD w h))]) := (gA6.bd hBd).push (faces_bds _ cs)
    obtain ⟨ds, dl, ei⟩ := ev_images W c0 bd6
    have s5 : sAsg (tgN 5) (eCall f__law_take (aCons (eVar 0) (aCons (eC (.int 7)) aNil))) (sdS m b w h ah.length (some (nD kk)) x5 x6 x7) (A ++ [.lst (cs.map (fD w h))]) = some (.nx (sdS m b w h ah.length (some (nD kk)) (some (nD r5)) x6 x7), A5 ++ [.lst (cs.map (fD w h))]) := asg_ev t5
    have s6 : sAsg (tgN 6) (eCall f__law_face (aCons (eVar 0) (aCons (eVar 1) aNil))) (sdS m b w h ah.length (some (nD kk)) (some (nD r5)) x6 x7) (A5 ++ [.lst (cs.map (fD w h))]) = some (.nx (sdS m b w h ah.length (some (nD kk)) (some (nD r5)) (some (fD w h c0)) x7), A6 ++ [.lst (cs.map (fD w h))]) := asg_ev ((call_ev (cons_ev (var_ev rfl) (cons_ev (var_ev rfl) (nil_ev _ _)))).trans e6)
    have s7 : sAsg (tgN 7) (eCall f__law_images (aCons (eVar 6) aNil)) (sdS m b w h ah.length (some (nD kk)) (some (nD r5)) (some (fD w h c0)) x7) (A6 ++ [.lst (cs.map (fD w h))]) = some (.nx (sdS m b w h ah.length (some (nD kk)) (some (nD r5)) (some (fD w h c0)) (some (.lst (ds.map (fD w h))))), A6 ++ [.lst (cs.map (fD w h))]) := asg_ev ((call_ev (cons_ev (var_ev rfl) (nil_ev _ _))).trans ei)
    have lnd := len_lst (m := eVar 7) (δ := sdS m b w h ah.length (some (nD kk)) (some (nD r5)) (some (fD w h c0)) (some (.lst (ds.map (fD w h))))) (ah := A6 ++ [.lst (cs.map (fD w h))]) (l := ds.map (fD w h)) rfl
    rw [List.length_map] at lnd
    obtain ⟨r8, A8, t8, l8, g8⟩ := take_app (δ := sdS m b w h ah.length (some (nD kk)) (some (nD r5)) (some (fD w h c0)) (some (.lst (ds.map (fD w h))))) (G := [AO.lst (cs.map (fD w h))]) (i := 0) (m := MM.e1 gLen (eVar 7)) gA6.at' rfl lnd (many := (ds.length : Nat)) (by omega) (by omega)
    have r8l : r8 < ds.length := by omega
    have gA8 := gA6.trans g8
    have bd8 : Bd (A8 ++ [.lst (cs.map (fD w h))]) := (gA8.bd hBd).push (faces_bds _ cs)
    have lA8 := gA8.len
    -- the face
    have s8 : ∃ A9 c9, sIf (tOf (eBin gEq (eVar 5) (eC (.int 0)))) (sAsg (tgN 6) (eCall f__law_over (aCons (eVar 6) (aCons (eVar 6) aNil)))) (sIf (tOf (eBin gEq (eVar 5) (eC (.int 1)))) (sAsg (tgN 6) (eCall f__law_over (aCons (eVar 6) (aCons (eIx (eVar 7) (eCall f__law_take (aCons (eVar 0) (aCons (e1 gLen (eVar 7)) aNil)))) aNil)))) (sIf (tOf (eBin gEq (eVar 5) (eC (.int 2)))) (sAsg (tgN 6) (eCall f__law_whole (aCons (eVar 7) aNil))) (sIf (tAndM (tOf (eBin gEq (eVar 5) (eC (.int 3)))) (tOf (eBin gNe (eVar 3) (eFrz (fLst aNil))))) (sAsg (tgN 6) (eIx (eCall f__law_images (aCons (eIx (eVar 3) (eNeg (eC (.int 1)))) aNil)) (eCall f__law_take (aCons (eVar 0) (aCons (e1 gLen (eVar 7)) aNil))))) sNil))) (sdS m b w h ah.length (some (nD kk)) (some (nD r5)) (some (fD w h c0)) (some (.lst (ds.map (fD w h))))) (A6 ++ [.lst (cs.map (fD w h))]) = some (.nx (sdS m b w h ah.length (some (nD kk)) (some (nD r5)) (some (fD w h c9)) (some (.lst (ds.map (fD w h))))), A9 ++ [.lst (cs.map (fD w h))]) ∧ Bg b A6 A9 := by
      have q : ∀ i : Nat, tOf (eBin gEq (eVar 5) (eC (.int (i : Nat)))) (sdS m b w h ah.length (some (nD kk)) (some (nD r5)) (some (fD w h c0)) (some (.lst (ds.map (fD w h))))) (A6 ++ [.lst (cs.map (fD w h))]) = some (decide (r5 = i), A6 ++ [.lst (cs.map (fD w h))]) := fun i => eqn (a := eVar 5) (n := r5) rfl (cn i)
      by_cases e0 : r5 = 0
      · have q0 := q 0
        rw [decide_eq_true e0] at q0
        exact ⟨A6, _, (if_t q0).trans (asg_ev ((call_ev (cons_ev (var_ev rfl) (cons_ev (var_ev rfl) (nil_ev _ _)))).trans (ev_over w6 h6 bd6))), Bg.refl gA6.at'⟩
      have q0 := q 0
      rw [decide_eq_false e0] at q0
      by_cases e1 : r5 = 1
      · have q1 := q 1
        rw [decide_eq_true e1] at q1
        exact ⟨A8, _, (if_f q0).trans ((if_t q1).trans (asg_ev ((call_ev (cons_ev (var_ev rfl) (cons_ev (idx3 (m := eVar 7) (i := r8) (d := fD w h ds[r8]) rfl t8 (by simp [r8l])) (nil_ev _ _)))).trans (ev_over w6 h6 bd8)))), g8⟩
      have q1 := q 1
      rw [decide_eq_false e1] at q1
      by_cases e2 : r5 = 2
      · have q2 := q 2
        rw [decide_eq_true e2] at q2
        exact ⟨A6, _, (if_f q0).trans ((if_f q1).trans ((if_t q2).trans (asg_ev ((call_ev (cons_ev (var_ev rfl) (nil_ev _ _))).trans (ev_lwhole W (by omega) (by omega) bd6))))), Bg.refl gA6.at'⟩
      have q2 := q 2
      rw [decide_eq_false e2] at q2
      by_cases e3 : r5 = 3 ∧ cs ≠ []
      · have q3 := q 3
        rw [decide_eq_true e3.1] at q3
        have at_ : ∀ {A : AH}, A.length = ah.length → (A ++ [AO.lst (cs.map (fD w h))])[ah.length]? = some (.lst (cs.map (fD w h))) := fun e => by rw [← e]; simp
        have ne : tOf (eBin gNe (eVar 3) (eFrz (fLst aNil))) (sdS m b w h ah.length (some (nD kk)) (some (nD r5)) (some (fD w h c0)) (some (.lst (ds.map (fD w h))))) (A6 ++ [.lst (cs.map (fD w h))]) = some (true, A6 ++ [.lst (cs.map (fD w h))]) := by
          refine tof_ev (bin_ev (x := .ptr ah.length) rfl (y := .lst []) rfl ?_)
          unfold gNe
          rw [dEq_ptr (m := 1) (by decide) (at_ lA6) (by rw [List.all_map]; exact List.all_eq_true.mpr fun c _ => fD_pb _ _ c) rfl]
          simp [e3.2]
        obtain ⟨init, z, rfl⟩ : ∃ init z, cs = init ++ [z] := ⟨cs.dropLast, cs.getLast e3.2, (List.dropLast_concat_getLast e3.2).symm⟩
        obtain ⟨ds2, dl2, ei2⟩ := ev_images W z bd6
        have r82 : r8 < ds2.length := by omega
        have lastE := idxPlast (m := eVar 3) (δ := sdS m b w h ah.length (some (nD kk)) (some (nD r5)) (some (fD w h c0)) (some (.lst (ds.map (fD w h))))) (ah := A6 ++ [.lst ((init ++ [z]).map (fD w h))]) (ah1 := A6 ++ [.lst ((init ++ [z]).map (fD w h))]) (b := ah.length) (l := init.map (fD w h)) (d := fD w h z) rfl (by rw [at_ lA6, List.map_append]; rfl)
        exact ⟨A8, _, (if_f q0).trans ((if_f q1).trans ((if_f q2).trans ((if_t ((tand_t q3).trans ne)).trans (asg_ev (idx3 (i := r8) (d := fD w h ds2[r8]) ((call_ev (cons_ev lastE (nil_ev _ _))).trans ei2) t8 (by simp [r82])))))), g8⟩
      · have q3 : tAndM (tOf (eBin gEq (eVar 5) (eC (.int 3)))) (tOf (eBin gNe (eVar 3) (eFrz (fLst aNil)))) (sdS m b w h ah.length (some (nD kk)) (some (nD r5)) (some (fD w h c0)) (some (.lst (ds.map (fD w h))))) (A6 ++ [.lst (cs.map (fD w h))]) = some (false, A6 ++ [.lst (cs.map (fD w h))]) := by
          have q3 := q 3
          by_cases e4 : r5 = 3
          · rw [decide_eq_true e4] at q3
            have hc : cs = [] := Classical.byContradiction fun hn => e3 ⟨e4, hn⟩
            refine (tand_t q3).trans (tof_ev (bin_ev (x := .ptr ah.length) rfl (y := .lst []) rfl ?_))
            unfold gNe
            rw [dEq_ptr (m := 1) (l := cs.map (fD w h)) (by decide) (by rw [← lA6]; simp) (by rw [List.all_map]; exact List.all_eq_true.mpr fun c _ => fD_pb _ _ c) rfl]
            simp [hc]
          · rw [decide_eq_false e4] at q3
            exact tand_f q3
        exact ⟨A6, c0, (if_f q0).trans ((if_f q1).trans ((if_f q2).trans (nil_t q3))), Bg.refl gA6.at'⟩
    obtain ⟨A9, c9, s8, g9⟩ := s8
    have gA9 := gA6.trans g9
    have lA9 := gA9.len
    have ap := app_ev (k := 3) (e := eVar 6) (δ := sdS m b w h ah.length (some (nD kk)) (some (nD r5)) (some (fD w h c9)) (some (.lst (ds.map (fD w h))))) (ah := A9) (acc := cs.map (fD w h)) (d := fD w h c9) (by rw [lA9]; rfl) rfl (by rw [List.length_map]; omega)
    refine ⟨sdS m b w h ah.length (some (nD kk)) x5 x6 x7, _, A9 ++ [.lst ((cs ++ [c9]).map (fD w h))], rfl, (seq_nx s5).trans ((seq_nx s6).trans ((seq_nx s7).trans ((seq_nx s8).trans ((exp_ev ap).trans (by rw [List.map_append]; rfl))))), A9, cs ++ [c9], _, _, _, _, rfl, gA9, by simp [hl], rfl⟩)
  obtain ⟨A, cs, x4, x5, x6, x7, rfl, gA, hl, rfl⟩ := hI
  have lA := gA.len
  have rg : iRng1M (eCall f__law_take (aCons (eVar 0) (aCons (eBin gAdd (eVar 2) (eC (.int 1))) aNil))) (sdS m b w h ah.length none none none none) (ah ++ [.lst []]) = some ((List.range r0).map nD, A0 ++ [.lst []]) := rng1 t0 (by omega)
  have hs : s__law_seeds [some (.ptr b), some (bxD w h), some (nD m), none, none, none, none, none] ah = some (.rt (.lst (cs.map (fD w h))), A ++ [.gone]) := by
    unfold s__law_seeds
    refine (seq_nx s1).trans ((seq_nx ((for_ev rg).trans e)).trans (ret_ev ?_))
    unfold eFreeze
    rw [var_ev (d := .ptr ah.length) rfl, Option.bind_some, ← lA, freeze_end]
  refine ⟨cs, A, (fn_rt rfl hs).trans (congrArg some (trim_len lA ?_ (gA.bd hBd))), by omega, gA⟩
  exact faces_bds _ cs
end
end K19

set_option linter.all false
set_option maxRecDepth 100000
namespace LM
open PySem L2 MM
/-! ### what plain rows span -/
theorem sift1_xor (a b r : Nat) : sift1 (a ^^^ b) r = sift1 a r ^^^ sift1 b r := by
  unfold sift1
  rw [Nat.testBit_xor]
  cases a.testBit r.log2 <;> cases b.testBit r.log2
  · rfl
  · show (a ^^^ b) ^^^ r = a ^^^ (b ^^^ r)
    exact Nat.xor_assoc ..
  · show (a ^^^ b) ^^^ r = (a ^^^ r) ^^^ b
    rw [Nat.xor_assoc, Nat.xor_comm b r, Nat.xor_assoc]
  · show a ^^^ b = (a ^^^ r) ^^^ (b ^^^ r)
    rw [Nat.xor_assoc, Nat.xor_comm b r, ← Nat.xor_assoc r r b, Nat.xor_self, Nat.zero_xor]
theorem sift_xor : ∀ (L : List Nat) (a b : Nat), sift L (a ^^^ b) = sift L a ^^^ sift L b
  | [], _, _ => rfl
  | r :: L, a, b => by
    show sift L (sift1 (a ^^^ b) r) = _
    rw [sift1_xor, sift_xor L]
    rfl
theorem sift_zero (L : List Nat) : sift L 0 = 0 := by
  have := sift_xor L 0 0
  rw [Nat.xor_self, Nat.xor_self] at this
  exact this
def Sp (L : List Nat) (n : Nat) : Prop := sift L n = 0
theorem Sp.xc (L : List Nat) : Xc (Sp L) := ⟨sift_zero L, fun a b ha hb => by
  unfold Sp at *
  rw [sift_xor, ha, hb]
  rfl⟩
theorem xor_cc (a b : Nat) : a ^^^ b ^^^ b = a := by rw [Nat.xor_assoc, Nat.xor_self, Nat.xor_zero]
theorem xor_ca (a b : Nat) : a ^^^ (a ^^^ b) = b := by rw [← Nat.xor_assoc, Nat.xor_self, Nat.zero_xor]
theorem xor_eq0 {a b : Nat} (h : a ^^^ b = 0) : a = b := by
  have := xor_cc a b
  rw [h, Nat.zero_xor] at this
  exact this.symm
/-- what sifting takes off is of the rows -/
theorem sift_off {P : Nat → Prop} (c : Xc P) : ∀ {L : List Nat} {n : Nat}, (∀ r ∈ L, P r) → P (n ^^^ sift L n)
  | [], n, _ => by
    show P (n ^^^ n)
    rw [Nat.xor_self]
    exact c.z
  | r :: L, n, h => by
    show P (n ^^^ sift L (sift1 n r))
    have ih := sift_off c (L := L) (n := sift1 n r) fun s hs => h s (List.mem_cons_of_mem _ hs)
    have e : n ^^^ sift L (sift1 n r) = (n ^^^ sift1 n r) ^^^ (sift1 n r ^^^ sift L (sift1 n r)) := by
      rw [Nat.xor_assoc, xor_ca]
    rw [e]
    refine c.x _ _ ?_ ih
    unfold sift1
    split
    · rw [xor_ca]
      exact h r (List.mem_cons_self ..)
    · rw [Nat.xor_self]
      exact c.z
theorem Sp.least {P : Nat → Prop} (c : Xc P) {L : List Nat} {n : Nat} (h : ∀ r ∈ L, P r) (hn : Sp L n) : P n := by
  have := sift_off c (n := n) h
  rw [hn, Nat.xor_zero] at this
  exact this
theorem sift_keepN : ∀ {L : List Nat} {n : Nat}, (∀ r ∈ L, n.testBit r.log2 = false) → sift L n = n
  | [], _, _ => rfl
  | r :: L, n, h => by
    show sift L (sift1 n r) = n
    have : sift1 n r = n := by
      unfold sift1
      rw [h r (List.mem_cons_self ..)]
      rfl
    rw [this]
    exact sift_keepN fun s hs => h s (List.mem_cons_of_mem _ hs)
theorem sift_row {L : List Nat} (pos : ∀ r ∈ L, 0 < r) (one : L.Pairwise fun r s => r.testBit s.log2 = false ∧ s.testBit r.log2 = false) : ∀ r ∈ L, Sp L r := by
  induction L with
  | nil => intro r hr; cases hr
  | cons s L ih =>
    intro r hr
    rw [List.pairwise_cons] at one
    show sift L (sift1 r s) = 0
    rcases List.mem_cons.mp hr with rfl | hr
    · unfold sift1
      rw [testBit_log2 (pos r (List.mem_cons_self ..)), if_pos rfl, Nat.xor_self]
      exact sift_zero L
    · unfold sift1
      rw [(one.1 r hr).2]
      exact ih (fun t ht => pos t (List.mem_cons_of_mem _ ht)) one.2 r hr
theorem Pl.row {B : Nat} {L : List Nat} (p : Pl B L) : ∀ r ∈ L, Sp L r := sift_row p.pos p.one
theorem Pl.idem {B : Nat} {L : List Nat} (p : Pl B L) (n : Nat) : sift L (sift L n) = sift L n := sift_keepN (sift_free p.pos p.one)
theorem Pl.off {B : Nat} {L : List Nat} (p : Pl B L) (n : Nat) : Sp L (n ^^^ sift L n) := sift_off (Sp.xc L) p.row
theorem Sp.of_rest {B : Nat} {L : List Nat} (p : Pl B L) {n : Nat} : Sp L (n ^^^ sift L n) := p.off n
theorem Sp.lt {B : Nat} {L : List Nat} (p : Pl B L) {n : Nat} (h : Sp L n) : n < 2 ^ B := by
  refine Sp.least (P := fun n => n < 2 ^ B) ⟨Nat.two_pow_pos B, fun a b => Nat.xor_lt_two_pow⟩ p.lt h
/-- joined rows span what the rows span, and the number -/
theorem join_new {B : Nat} {L : List Nat} (p : Pl B L) {n : Nat} (hn : n < 2 ^ B) : Sp (join L n) n := by
  have pj := p.join hn
  by_cases h0 : sift L n = 0
  · have : join L n = L := by unfold join; rw [if_pos h0]
    rw [this]
    exact h0
  have hx : Sp (join L n) (sift L n) := pj.row _ (by
    unfold join
    rw [if_neg h0]
    exact mem_sort.mpr (List.mem_append_right _ (List.mem_singleton.mpr rfl)))
  have hr : ∀ r ∈ L, Sp (join L n) r := fun r hr => by
    have h1 : Sp (join L n) (if r.testBit (sift L n).log2 = true then r ^^^ sift L n else r) := pj.row _ (by
      unfold join
      rw [if_neg h0]
      exact mem_sort.mpr (List.mem_append_left _ (List.mem_map.mpr ⟨r, hr, rfl⟩)))
    split at h1
    · have := (Sp.xc _).x _ _ h1 hx
      rwa [xor_cc] at this
    · exact h1
  have := (Sp.xc _).x _ _ (Sp.least (Sp.xc _) hr (p.off n)) hx
  rwa [xor_cc] at this
theorem join_old {B : Nat} {L : List Nat} (p : Pl B L) {n : Nat} (hn : n < 2 ^ B) : ∀ r ∈ L, Sp (join L n) r := by
  have pj := p.join hn
  by_cases h0 : sift L n = 0
  · have : join L n = L := by unfold join; rw [if_pos h0]
    rw [this]
    exact p.row
  have hx : Sp (join L n) (sift L n) := pj.row _ (by
    unfold join
    rw [if_neg h0]
    exact mem_sort.mpr (List.mem_append_right _ (List.mem_singleton.mpr rfl)))
  intro r hr
  have h1 : Sp (join L n) (if r.testBit (sift L n).log2 = true then r ^^^ sift L n else r) := pj.row _ (by
    unfold join
    rw [if_neg h0]
    exact mem_sort.mpr (List.mem_append_left _ (List.mem_map.mpr ⟨r, hr, rfl⟩)))
  split at h1
  · have := (Sp.xc _).x _ _ h1 hx
    rwa [xor_cc] at this
  · exact h1
theorem Sp.mono {L M : List Nat} (h : ∀ r ∈ L, Sp M r) {n : Nat} (hn : Sp L n) : Sp M n := Sp.least (Sp.xc M) h hn
theorem join_len {L : List Nat} {n : Nat} : (join L n).length = L.length + (if sift L n = 0 then 0 else 1) := by
  unfold join
  split
  · rfl
  · rw [(sortBy_perm (le := geN) _).length_eq]
    simp
/-! ### put by size, each once -/
structure Cn (B : Nat) (L : List Nat) : Prop where
  pl : Pl B L
  sd : L.Pairwise fun a b => b < a
theorem Pl.ne {B : Nat} {L : List Nat} (p : Pl B L) : L.Pairwise (fun a b => a ≠ b) := by
  refine (List.Pairwise.and_mem.mp p.one).imp fun {a b} q e => ?_
  obtain ⟨ha, -, q1, -⟩ := q
  rw [← e, testBit_log2 (p.pos a ha)] at q1
  cases q1
theorem geN_sorted (l : List Nat) : (sortBy geN l).Pairwise fun a b => b ≤ a := by
  have := sortBy_sorted (le := geN) (fun a b c h1 h2 => by unfold geN at *; simp at *; omega) (fun a b => by unfold geN; simp; omega) l
  exact this.imp fun {a b} h => by unfold geN at h; simpa using h
theorem Cn.join {B : Nat} {L : List Nat} (c : Cn B L) {n : Nat} (hn : n < 2 ^ B) : Cn B (join L n) := by
  have p := c.pl.join hn
  refine ⟨p, ?_⟩
  by_cases h0 : sift L n = 0
  · have : LM.join L n = L := by unfold LM.join; rw [if_pos h0]
    rw [this]
    exact c.sd
  have ne := p.ne
  have srt : (LM.join L n).Pairwise fun a b => b ≤ a := by
    unfold LM.join
    rw [if_neg h0]
    exact geN_sorted _
  exact (srt.and ne).imp fun {a b} q => Nat.lt_of_le_of_ne q.1 (Ne.symm q.2)
theorem Cn.nil {B : Nat} : Cn B [] := ⟨Pl.nil, List.Pairwise.nil⟩
theorem Cn.joinAll {B n : Nat} {f : Nat → List (Nat × Nat) → Nat} : ∀ {ws : List (List (Nat × Nat))} {L : List Nat}, Cn B L → (∀ m ∈ ws, f n m < 2 ^ B) → Cn B (joinAll f ws L n)
  | [], _, h, _ => h
  | m :: r, L, h, hm => Cn.joinAll (ws := r) (L := LM.join L (f n m)) (Cn.join h (hm m (List.mem_cons_self ..))) fun x hx => hm x (List.mem_cons_of_mem _ hx)
theorem Cn.joinAlls {B : Nat} {f : Nat → List (Nat × Nat) → Nat} {ws : List (List (Nat × Nat))} : ∀ {ns L : List Nat}, Cn B L → (∀ n ∈ ns, ∀ m ∈ ws, f n m < 2 ^ B) → Cn B (ns.foldl (LM.joinAll f ws) L)
  | [], _, h, _ => h
  | n :: r, L, h, hm => Cn.joinAlls (ns := r) (L := LM.joinAll f ws L n) (Cn.joinAll h (hm n (List.mem_cons_self ..))) fun x hx => hm x (List.mem_cons_of_mem _ hx)
theorem Cn.fold {B : Nat} : ∀ {ns L : List Nat}, Cn B L → (∀ n ∈ ns, n < 2 ^ B) → Cn B (ns.foldl LM.join L)
  | [], _, h, _ => h
  | n :: ns, _, h, hn => Cn.fold (ns := ns) (Cn.join h (hn n (List.mem_cons_self ..))) fun m hm => hn m (List.mem_cons_of_mem _ hm)
/-- what a fold of joins spans -/
theorem fold_old {B : Nat} : ∀ {ns L : List Nat}, Pl B L → (∀ n ∈ ns, n < 2 ^ B) → ∀ {m : Nat}, Sp L m → Sp (ns.foldl LM.join L) m
  | [], _, _, _, _, h => h
  | n :: ns, L, p, hn, m, h => fold_old (ns := ns) (p.join (hn n (List.mem_cons_self ..))) (fun x hx => hn x (List.mem_cons_of_mem _ hx)) (Sp.mono (join_old p (hn n (List.mem_cons_self ..))) h)
theorem fold_new {B : Nat} : ∀ {ns L : List Nat}, Pl B L → (∀ n ∈ ns, n < 2 ^ B) → ∀ n ∈ ns, Sp (ns.foldl LM.join L) n
  | n :: ns, L, p, hn, m, hm => by
    have p' := p.join (hn n (List.mem_cons_self ..))
    have hn' : ∀ x ∈ ns, x < 2 ^ B := fun x hx => hn x (List.mem_cons_of_mem _ hx)
    rcases List.mem_cons.mp hm with rfl | hm
    · exact fold_old p' hn' (join_new p (hn m (List.mem_cons_self ..)))
    · exact fold_new p' hn' m hm
theorem fold_xc {P : Nat → Prop} (c : Xc P) : ∀ {ns L : List Nat}, (∀ r ∈ L, P r) → (∀ n ∈ ns, P n) → ∀ r ∈ ns.foldl LM.join L, P r
  | [], _, h, _ => h
  | n :: ns, L, h, hn => fold_xc c (ns := ns) (c.join h (hn n (List.mem_cons_self ..))) fun x hx => hn x (List.mem_cons_of_mem _ hx)
theorem fold_len : ∀ {ns L : List Nat}, (ns.foldl LM.join L).length ≤ L.length + ns.length ∧ L.length ≤ (ns.foldl LM.join L).length
  | [], _ => ⟨Nat.le_refl _, Nat.le_refl _⟩
  | n :: ns, L => by
    have ih := fold_len (ns := ns) (L := join L n)
    have := join_len (L := L) (n := n)
    show (ns.foldl LM.join (join L n)).length ≤ L.length + (ns.length + 1) ∧ L.length ≤ (ns.foldl LM.join (join L n)).length
    split at this <;> omega
/-- a fold of joins is a walk over them, walk by walk -/
theorem joinAll_fold (f : Nat → List (Nat × Nat) → Nat) (n : Nat) : ∀ (ws : List (List (Nat × Nat))) (L : List Nat), joinAll f ws L n = (ws.map (f n)).foldl LM.join L
  | [], _ => rfl
  | m :: r, L => joinAll_fold f n r (LM.join L (f n m))
theorem joinAlls_fold (f : Nat → List (Nat × Nat) → Nat) (ws : List (List (Nat × Nat))) : ∀ (ns L : List Nat), ns.foldl (LM.joinAll f ws) L = (ns.flatMap fun n => ws.map (f n)).foldl LM.join L
  | [], _ => rfl
  | n :: r, L => by
    show r.foldl _ (LM.joinAll f ws L n) = _
    rw [joinAlls_fold f ws r, List.flatMap_cons, List.foldl_append, joinAll_fold]
/-! ### rows of one span are the same -/
theorem top_go {k : Nat} : ∀ {L : List Nat} {n : Nat}, (∀ r ∈ L, 0 < r) → 0 < n → n.log2 = k → (∃ s ∈ L, s.log2 = k) ∨ (0 < sift L n ∧ (sift L n).log2 = k)
  | [], n, _, h0, h => .inr ⟨h0, h⟩
  | r :: L, n, pos, h0, h => by
    by_cases hk : r.log2 = k
    · exact .inl ⟨r, List.mem_cons_self .., hk⟩
    have h1 : 0 < sift1 n r ∧ (sift1 n r).log2 = k := by
      unfold sift1
      split
      · rename_i hb
        have lt : r.log2 < k := by
          rcases Nat.lt_trichotomy r.log2 k with q | q | q
          · exact q
          · exact absurd q hk
          · rw [testBit_hi (by omega)] at hb; cases hb
        have bk : (n ^^^ r).testBit k = true := by
          rw [Nat.testBit_xor, ← h, testBit_log2 h0, testBit_hi (by omega)]; rfl
        exact ⟨pos_of bk, log2_of bk fun j hj => by rw [Nat.testBit_xor, testBit_hi (by omega), testBit_hi (by omega)]; rfl⟩
      · exact ⟨h0, h⟩
    rcases top_go (L := L) (fun s hs => pos s (List.mem_cons_of_mem _ hs)) h1.1 h1.2 with ⟨s, hs, e⟩ | q
    · exact .inl ⟨s, List.mem_cons_of_mem _ hs, e⟩
    · exact .inr q
theorem Sp.top {B : Nat} {L : List Nat} (p : Pl B L) {n : Nat} (h : Sp L n) (h0 : 0 < n) : ∃ s ∈ L, s.log2 = n.log2 := by
  rcases top_go (L := L) p.pos h0 rfl with q | ⟨q, -⟩
  · exact q
  · rw [h] at q
    omega
theorem Pl.apart_ {B : Nat} {L : List Nat} (p : Pl B L) {r s : Nat} (hr : r ∈ L) (hs : s ∈ L) (ne : r.log2 ≠ s.log2) : r.testBit s.log2 = false := by
  have go : ∀ {L : List Nat}, (L.Pairwise fun r s => r.testBit s.log2 = false ∧ s.testBit r.log2 = false) → r ∈ L → s ∈ L → r.testBit s.log2 = false := fun {L} one hr hs => by
    induction L with
    | nil => cases hr
    | cons a L ih =>
      rw [List.pairwise_cons] at one
      rcases List.mem_cons.mp hr with er | hr
      · rcases List.mem_cons.mp hs with es | hs
        · exact absurd (by rw [er, es]) ne
        · rw [er]
          exact (one.1 s hs).1
      · rcases List.mem_cons.mp hs with es | hs
        · rw [es]
          exact (one.1 r hr).2
        · exact ih one.2 hr hs
  exact go p.one hr hs
theorem sub_of {B : Nat} {L M : List Nat} (p : Pl B L) (q : Pl B M) (h1 : ∀ r ∈ L, Sp M r) (h2 : ∀ r ∈ M, Sp L r) : ∀ r ∈ L, r ∈ M := fun r hr => by
  obtain ⟨s, hs, e⟩ := Sp.top q (h1 r hr) (p.pos r hr)
  have : r = s := by
    by_cases h0 : r ^^^ s = 0
    · exact xor_eq0 h0
    exfalso
    have sm : Sp M (r ^^^ s) := (Sp.xc M).x _ _ (h1 r hr) (q.row s hs)
    have sl : Sp L (r ^^^ s) := (Sp.xc L).x _ _ (p.row r hr) (h2 s hs)
    obtain ⟨t, ht, et⟩ := Sp.top p sl (by omega)
    obtain ⟨u, hu, eu⟩ := Sp.top q sm (by omega)
    have bj := testBit_log2 (n := r ^^^ s) (by omega)
    have ne : (r ^^^ s).log2 ≠ r.log2 := fun q' => by
      rw [q', Nat.testBit_xor, testBit_log2 (p.pos r hr), ← e, testBit_log2 (q.pos s hs)] at bj
      cases bj
    have b1 : r.testBit (r ^^^ s).log2 = false := by
      rw [← et]
      exact p.apart_ hr ht (by omega)
    have b2 : s.testBit (r ^^^ s).log2 = false := by
      rw [← eu]
      exact q.apart_ hs hu (by omega)
    rw [Nat.testBit_xor, b1, b2] at bj
    cases bj
  exact this ▸ hs
theorem eq_sorted : ∀ {L M : List Nat}, (L.Pairwise fun a b => b < a) → (M.Pairwise fun a b => b < a) → (∀ r, r ∈ L ↔ r ∈ M) → L = M
  | [], [], _, _, _ => rfl
  | [], b :: M, _, _, h => absurd ((h b).mpr (List.mem_cons_self ..)) (by simp)
  | a :: L, [], _, _, h => absurd ((h a).mp (List.mem_cons_self ..)) (by simp)
  | a :: L, b :: M, h1, h2, h => by
    rw [List.pairwise_cons] at h1 h2
    have e : a = b := by
      have ha := (h a).mp (List.mem_cons_self ..)
      have hb := (h b).mpr (List.mem_cons_self ..)
      rcases List.mem_cons.mp ha with e | ha
      · exact e
      rcases List.mem_cons.mp hb with e | hb
      · exact e.symm
      have := h1.1 b hb
      have := h2.1 a ha
      omega
    subst e
    rw [eq_sorted h1.2 h2.2 fun r => ⟨fun hr => ?_, fun hr => ?_⟩]
    · have lt := h1.1 r hr
      rcases List.mem_cons.mp ((h r).mp (List.mem_cons_of_mem _ hr)) with e | q
      · omega
      · exact q
    · have lt := h2.1 r hr
      rcases List.mem_cons.mp ((h r).mpr (List.mem_cons_of_mem _ hr)) with e | q
      · omega
      · exact q
theorem Cn.eq {B : Nat} {L M : List Nat} (c : Cn B L) (d : Cn B M) (h1 : ∀ r ∈ L, Sp M r) (h2 : ∀ r ∈ M, Sp L r) : L = M := eq_sorted c.sd d.sd fun r => ⟨sub_of c.pl d.pl h1 h2 r, sub_of d.pl c.pl h2 h1 r⟩
/-- joined to less, rows of a span fill it -/
theorem Cn.fill {B : Nat} {L M ns : List Nat} (c : Cn B L) (d : Cn B M) (hn : ∀ n ∈ ns, n < 2 ^ B) (h1 : ∀ r ∈ L, Sp M r) (h2 : ∀ n ∈ ns, Sp M n) (h3 : ∀ r ∈ M, Sp (ns.foldl LM.join L) r) : ns.foldl LM.join L = M :=
  Cn.eq (c.fold hn) d (fold_xc (Sp.xc M) h1 h2) h3
end LM

set_option linter.all false
set_option maxRecDepth 100000
namespace LM
open PySem L2 MM
/-! ### members and their numbers -/
theorem numb_go {N : Nat} : ∀ (L : List Nat) (s : Nat), L.foldl (fun f r => 2 * f + (N.testBit r.log2).toNat) s = s * 2 ^ L.length + numb L N
  | [], s => by simp [numb]
  | r :: L, s => by
    show L.foldl _ (2 * s + (N.testBit r.log2).toNat) = s * 2 ^ (L.length + 1) + L.foldl _ (2 * 0 + (N.testBit r.log2).toNat)
    rw [numb_go L, numb_go L (2 * 0 + _), Nat.pow_succ, Nat.add_mul, Nat.mul_zero, Nat.zero_add, Nat.add_assoc]
    congr 1
    rw [Nat.mul_comm 2 s, Nat.mul_assoc, Nat.mul_comm 2]
theorem numb_cons (r : Nat) (L : List Nat) (N : Nat) : numb (r :: L) N = (N.testBit r.log2).toNat * 2 ^ L.length + numb L N := by
  show L.foldl _ (2 * 0 + (N.testBit r.log2).toNat) = _
  rw [numb_go L, Nat.mul_zero, Nat.zero_add]
theorem numb_lt (N : Nat) : ∀ L : List Nat, numb L N < 2 ^ L.length
  | [] => by simp [numb]
  | r :: L => by
    have ih := numb_lt N L
    rw [numb_cons]
    show _ < 2 ^ (L.length + 1)
    rw [Nat.pow_succ]
    cases N.testBit r.log2
    · simp; omega
    · simp; omega
def cmb (N : Nat) : List Nat → Nat
  | [] => 0
  | r :: L => (if N.testBit r.log2 = true then r else 0) ^^^ cmb N L
theorem memb_numb {N : Nat} : ∀ (L : List Nat) (c : Nat), L.reverse.foldl memb1 (c * 2 ^ L.length + numb L N, 0) = (c, cmb N L)
  | [], c => by simp [numb, cmb]
  | r :: L, c => by
    rw [List.reverse_cons, List.foldl_append, numb_cons]
    have e : c * 2 ^ (r :: L).length + ((N.testBit r.log2).toNat * 2 ^ L.length + numb L N) = (2 * c + (N.testBit r.log2).toNat) * 2 ^ L.length + numb L N := by
      show c * 2 ^ (L.length + 1) + _ = _
      rw [Nat.pow_succ, Nat.add_mul, Nat.add_assoc]
      congr 1
      rw [Nat.mul_comm 2 c, Nat.mul_assoc, Nat.mul_comm 2]
    rw [e, memb_numb L]
    show memb1 _ r = (c, (if N.testBit r.log2 = true then r else 0) ^^^ cmb N L)
    unfold memb1
    cases N.testBit r.log2
    · show ((2 * c + 0) / 2, if (2 * c + 0) % 2 = 1 then cmb N L ^^^ r else cmb N L) = (c, 0 ^^^ cmb N L)
      rw [if_neg (by omega), Nat.zero_xor]
      congr 1
      omega
    · show ((2 * c + 1) / 2, if (2 * c + 1) % 2 = 1 then cmb N L ^^^ r else cmb N L) = (c, r ^^^ cmb N L)
      rw [if_pos (by omega), Nat.xor_comm]
      congr 1
      omega
theorem cmb_congr {N M : Nat} : ∀ {L : List Nat}, (∀ r ∈ L, N.testBit r.log2 = M.testBit r.log2) → cmb N L = cmb M L
  | [], _ => rfl
  | r :: L, h => by
    show (if N.testBit r.log2 = true then r else 0) ^^^ cmb N L = (if M.testBit r.log2 = true then r else 0) ^^^ cmb M L
    rw [h r (List.mem_cons_self ..), cmb_congr fun s hs => h s (List.mem_cons_of_mem _ hs)]
theorem sift_cmb : ∀ {L : List Nat} {N : Nat}, (L.Pairwise fun r s => r.testBit s.log2 = false ∧ s.testBit r.log2 = false) → sift L N = N ^^^ cmb N L
  | [], N, _ => (Nat.xor_zero N).symm
  | r :: L, N, one => by
    rw [List.pairwise_cons] at one
    show sift L (sift1 N r) = N ^^^ ((if N.testBit r.log2 = true then r else 0) ^^^ cmb N L)
    rw [sift_cmb one.2]
    have e : cmb (sift1 N r) L = cmb N L := cmb_congr fun s hs => by
      unfold sift1
      split
      · rw [Nat.testBit_xor, (one.1 s hs).1, Bool.xor_false]
      · rfl
    rw [e, ← Nat.xor_assoc]
    congr 1
    unfold sift1
    split
    · rfl
    · rw [Nat.xor_zero]
theorem memb_of {B N : Nat} {L : List Nat} (p : Pl B L) (h : Sp L N) : memb L (numb L N) = N := by
  have := memb_numb (N := N) L 0
  rw [Nat.zero_mul, Nat.zero_add] at this
  unfold memb
  rw [this]
  show cmb N L = N
  have e := sift_cmb (N := N) p.one
  rw [h] at e
  exact (xor_eq0 e.symm).symm
theorem memb_go {P : Nat → Prop} (c : Xc P) : ∀ {L : List Nat} {s : Nat × Nat}, (∀ r ∈ L, P r) → P s.2 → P (L.foldl memb1 s).2
  | [], _, _, h => h
  | r :: L, s, hL, h => memb_go c (L := L) (s := memb1 s r) (fun x hx => hL x (List.mem_cons_of_mem _ hx)) (by
    unfold memb1
    show P (if s.1 % 2 = 1 then s.2 ^^^ r else s.2)
    split
    · exact c.x _ _ h (hL r (List.mem_cons_self ..))
    · exact h)
theorem memb_sp {B n : Nat} {L : List Nat} (p : Pl B L) : Sp L (memb L n) := memb_go (Sp.xc L) (fun r hr => p.row r (List.mem_reverse.mp hr)) (sift_zero L)
/-! ### even and odd -/
def parL {α : Type} (l : List α) (f : α → Bool) : Bool := l.foldl (fun b x => b ^^ f x) false
theorem parL_go {α : Type} {f : α → Bool} : ∀ (l : List α) (b : Bool), l.foldl (fun b x => b ^^ f x) b = (b ^^ parL l f)
  | [], b => by simp [parL]
  | x :: l, b => by
    show l.foldl _ (b ^^ f x) = (b ^^ l.foldl _ (false ^^ f x))
    rw [parL_go l, parL_go l (false ^^ f x), Bool.false_xor, Bool.xor_assoc]
theorem parL_cons {α : Type} {f : α → Bool} (x : α) (l : List α) : parL (x :: l) f = (f x ^^ parL l f) := by
  show l.foldl _ (false ^^ f x) = _
  rw [parL_go l, Bool.false_xor]
theorem parL_xor {α : Type} {f g : α → Bool} : ∀ l : List α, parL l (fun x => f x ^^ g x) = (parL l f ^^ parL l g)
  | [] => rfl
  | x :: l => by
    rw [parL_cons, parL_cons, parL_cons, parL_xor l]
    cases f x <;> cases g x <;> cases parL l f <;> cases parL l g <;> rfl
theorem parL_congr {α : Type} {f g : α → Bool} : ∀ {l : List α}, (∀ x ∈ l, f x = g x) → parL l f = parL l g
  | [], _ => rfl
  | x :: l, h => by rw [parL_cons, parL_cons, h x (List.mem_cons_self ..), parL_congr fun y hy => h y (List.mem_cons_of_mem _ hy)]
theorem parL_false {α : Type} {f : α → Bool} {l : List α} (h : ∀ x ∈ l, f x = false) : parL l f = false := by
  rw [parL_congr (g := fun _ => false) h]
  induction l with
  | nil => rfl
  | cons a l ih => rw [parL_cons, ih fun x hx => h x (List.mem_cons_of_mem _ hx)]; rfl
theorem parL_map {α β : Type} {g : α → β} {f : β → Bool} : ∀ l : List α, parL (l.map g) f = parL l (fun x => f (g x))
  | [] => rfl
  | x :: l => by rw [List.map_cons, parL_cons, parL_cons, parL_map l]
theorem parL_perm {α : Type} {f : α → Bool} {l m : List α} (h : l.Perm m) : parL l f = parL m f := by
  induction h with
  | nil => rfl
  | cons x _ ih => rw [parL_cons, parL_cons, ih]
  | swap x y l => rw [parL_cons, parL_cons, parL_cons, parL_cons, ← Bool.xor_assoc, ← Bool.xor_assoc, Bool.xor_comm (f y)]
  | trans _ _ i1 i2 => rw [i1, i2]
theorem parL_one {α : Type} [DecidableEq α] {q : α} : ∀ {l : List α}, l.Nodup → q ∈ l → parL l (fun p => decide (p = q)) = true
  | x :: l, nd, h => by
    rw [List.nodup_cons] at nd
    rw [parL_cons]
    rcases List.mem_cons.mp h with e | h
    · rw [decide_eq_true e.symm, parL_false (l := l) (fun y hy => decide_eq_false (fun (e2 : y = q) => nd.1 (by rw [← e, ← e2]; exact hy)))]
      rfl
    · rw [decide_eq_false (fun (e2 : x = q) => nd.1 (by rw [e2]; exact h)), parL_one nd.2 h]
      rfl
theorem comb_bit {k j : Nat} : ∀ {L : List Nat} {f : Nat}, (L.foldl (fun f r => if r.testBit k = true then f ||| 2 ^ r.log2 else f) f).testBit j = (f.testBit j || L.any fun r => r.testBit k && decide (r.log2 = j))
  | [], f => by simp
  | r :: L, f => by
    show (L.foldl _ (if r.testBit k = true then f ||| 2 ^ r.log2 else f)).testBit j = _
    rw [comb_bit (L := L), List.any_cons, ← Bool.or_assoc]
    congr 1
    split
    · rename_i h
      rw [Nat.testBit_or, Nat.testBit_two_pow, h, Bool.true_and]
    · rename_i h
      rw [Bool.eq_false_iff.mpr h, Bool.false_and, Bool.or_false]
theorem combAt_bit {k j : Nat} {L : List Nat} : (combAt L k).testBit j = (decide (k = j) || L.any fun r => r.testBit k && decide (r.log2 = j)) := by
  unfold combAt
  rw [comb_bit, Nat.testBit_two_pow]
theorem firsts_go {j : Nat} : ∀ {L : List Nat} {f : Nat}, (L.foldl (fun f r => f ||| 2 ^ r.log2) f).testBit j = (f.testBit j || L.any fun r => decide (r.log2 = j))
  | [], f => by simp
  | r :: L, f => by
    show (L.foldl _ (f ||| 2 ^ r.log2)).testBit j = _
    rw [firsts_go (L := L), List.any_cons, ← Bool.or_assoc, Nat.testBit_or, Nat.testBit_two_pow]
theorem firsts_bit {j : Nat} {L : List Nat} : (firsts L).testBit j = L.any fun r => decide (r.log2 = j) := by
  unfold firsts
  rw [firsts_go, Nat.zero_testBit, Bool.false_or]
/-- what comb and row have in common: the comb's place and the row's first, or nothing -/
theorem comb_row {B k : Nat} {L : List Nat} (p : Pl B L) (hk : ∀ r ∈ L, r.log2 ≠ k) {s : Nat} (hs : s ∈ L) (j : Nat) : ((combAt L k).testBit j && s.testBit j) = (s.testBit k && (decide (k = j) ^^ decide (s.log2 = j))) := by
  rw [combAt_bit]
  by_cases e1 : k = j
  · rw [decide_eq_true e1, Bool.true_or, Bool.true_and, decide_eq_false (fun e => hk s hs (by omega)), ← e1]
    simp
  rw [decide_eq_false e1, Bool.false_or, Bool.false_xor]
  by_cases e2 : s.log2 = j
  · rw [decide_eq_true e2, Bool.and_true]
    have : s.testBit j = true := by rw [← e2]; exact testBit_log2 (p.pos s hs)
    rw [this, Bool.and_true]
    cases hb : s.testBit k
    · rw [List.any_eq_false]
      intro r hr
      by_cases e3 : r.log2 = j
      · have : r = s := by
          by_cases q : r = s
          · exact q
          exfalso
          have : r.log2 ≠ s.log2 ∨ r.log2 = s.log2 := by omega
          rcases this with q2 | q2
          · omega
          have ne : ∀ {L : List Nat}, (L.Pairwise fun r s => r.testBit s.log2 = false ∧ s.testBit r.log2 = false) → r ∈ L → s ∈ L → r.testBit s.log2 = false ∨ s.testBit r.log2 = false := fun {L} one hr hs => by
            induction L with
            | nil => cases hr
            | cons a L ih =>
              rw [List.pairwise_cons] at one
              rcases List.mem_cons.mp hr with er | hr
              · rcases List.mem_cons.mp hs with es | hs
                · exact absurd (er.trans es.symm) q
                · rw [er]; exact .inl (one.1 s hs).1
              · rcases List.mem_cons.mp hs with es | hs
                · rw [es]; exact .inl (one.1 r hr).2
                · exact ih one.2 hr hs
          rcases ne p.one hr hs with q3 | q3
          · rw [← q2, testBit_log2 (p.pos r hr)] at q3; cases q3
          · rw [q2, testBit_log2 (p.pos s hs)] at q3; cases q3
        rw [this, hb]
        simp
      · simp [e3]
    · rw [List.any_eq_true]
      exact ⟨s, hs, by simp [hb, e2]⟩
  · rw [decide_eq_false e2, Bool.and_false]
    have : ((L.any fun r => r.testBit k && decide (r.log2 = j)) && s.testBit j) = false := by
      cases ha : L.any fun r => r.testBit k && decide (r.log2 = j)
      · rfl
      · obtain ⟨r, hr, hb⟩ := List.any_eq_true.mp ha
        simp at hb
        rw [Bool.true_and, ← hb.2]
        exact p.apart_ hs hr (by omega)
    exact this
end LM

set_option linter.all false
set_option maxRecDepth 100000
namespace K19
open PySem L2 MM
open LM (mv1 moved Pl Xc Sp Cn parL)
/-! ### even and odd over the cells -/
def par (w h : Nat) (a b : Nat) : Bool := parL (cells w h) fun p => a.testBit (cb w h p) && b.testBit (cb w h p)
theorem par_xor (w h a b c : Nat) : par w h a (b ^^^ c) = (par w h a b ^^ par w h a c) := by
  unfold par
  rw [← LM.parL_xor]
  refine LM.parL_congr fun p _ => ?_
  rw [Nat.testBit_xor]
  cases a.testBit (cb w h p) <;> rfl
theorem par_zero (w h a : Nat) : par w h a 0 = false := LM.parL_false fun p _ => by rw [Nat.zero_testBit, Bool.and_false]
theorem par_comm (w h a b : Nat) : par w h a b = par w h b a := LM.parL_congr fun p _ => Bool.and_comm ..
theorem cells_nd (w h : Nat) : (cells w h).Nodup := by
  unfold cells List.Nodup
  rw [List.pairwise_flatMap]
  refine ⟨fun y _ => ?_, ?_⟩
  · refine List.pairwise_map.mpr ((List.nodup_range (n := w)).imp fun {a b} ne e => ne (Prod.mk.inj e).1)
  · refine (List.nodup_range (n := h)).imp fun {a b} ne x hx y hy e => ne ?_
    obtain ⟨p, -, rfl⟩ := List.mem_map.mp hx
    obtain ⟨q, -, rfl⟩ := List.mem_map.mp hy
    exact (Prod.mk.inj e).2
theorem tau_perm {w h : Nat} {t : Tn} (ht : t ∈ allT (decide (w = h))) : ((cells w h).map (tau w h t)).Perm (cells w h) := by
  refine (List.perm_ext_iff_of_nodup ?_ (cells_nd w h)).mpr fun p => ⟨fun hp => ?_, fun hp => ?_⟩
  · refine List.pairwise_map.mpr ((List.Pairwise.and_mem.mp (cells_nd w h)).imp fun {a b} q e => ?_)
    obtain ⟨ha, hb, ne⟩ := q
    refine ne ?_
    rw [← (tau_inv ht ha).2, ← (tau_inv ht hb).2, e]
  · obtain ⟨q, hq, rfl⟩ := List.mem_map.mp hp
    exact tau_in ht hq
  · exact List.mem_map.mpr ⟨tau w h (invT t) p, tau_in (inv_mem ht) hp, (tau_inv ht hp).1⟩
theorem par_ph {w h a b : Nat} {t : Tn} (ht : t ∈ allT (decide (w = h))) : par w h (ph w h t a) b = par w h a (ph w h (invT t) b) := by
  have hi := inv_mem ht
  have e1 : par w h (ph w h t a) b = parL (cells w h) fun q => a.testBit (cb w h (tau w h (invT t) q)) && b.testBit (cb w h q) := LM.parL_congr fun q hq => by
    show ((moved (mvs w h t) a).testBit (cb w h q) && _) = _
    rw [moved_bit ht hq]
  have e2 : par w h a (ph w h (invT t) b) = parL (cells w h) fun q => a.testBit (cb w h (tau w h (invT t) q)) && b.testBit (cb w h q) := by
    unfold par
    rw [← LM.parL_perm (tau_perm hi), LM.parL_map]
    refine LM.parL_congr fun q hq => ?_
    show (_ && (moved (mvs w h (invT t)) b).testBit (cb w h (tau w h (invT t) q))) = _
    rw [moved_bit hi (tau_in hi hq), (tau_inv hi hq).2]
  rw [e1, e2]
/-! ### good lots -/
structure Gd (w h : Nat) (L : List Nat) : Prop where
  cn : Cn (w * h) L
  cl : ∀ t ∈ allT (decide (w = h)), ∀ r ∈ L, Sp L (ph w h t r)
theorem ph_xc {w h : Nat} {P : Nat → Prop} (c : Xc P) {t : Tn} (ht : t ∈ allT (decide (w = h))) : Xc fun n => P (ph w h t n) := ⟨by
    show P (ph w h t 0)
    rw [ph_zero ht]
    exact c.z, fun a b ha hb => by
    show P (ph w h t (a ^^^ b))
    rw [ph_xor ht]
    exact c.x _ _ ha hb⟩
theorem Gd.ph {w h : Nat} {L : List Nat} (g : Gd w h L) {t : Tn} (ht : t ∈ allT (decide (w = h))) {n : Nat} (hn : Sp L n) : Sp L (ph w h t n) := Sp.least (ph_xc (Sp.xc L) ht) (g.cl t ht) hn
def idT : Tn := (false, 0)
theorem idT_mem {w h : Nat} : idT ∈ allT (decide (w = h)) := mem_allT.mpr ⟨by decide, .inr rfl⟩
def orb (w h : Nat) (ns : List Nat) : List Nat := ns.flatMap fun n => (ways w h).map fun m => moved m n
def orbC (w h : Nat) (ns : List Nat) : List Nat := ns.flatMap fun n => (ways w h).map fun m => n ^^^ moved m n
theorem mem_orb {w h x : Nat} {ns : List Nat} : x ∈ orb w h ns ↔ ∃ n ∈ ns, ∃ t ∈ allT (decide (w = h)), x = ph w h t n := by
  unfold orb ways
  rw [List.mem_flatMap]
  constructor
  · rintro ⟨n, hn, hx⟩
    obtain ⟨m, hm, rfl⟩ := List.mem_map.mp hx
    obtain ⟨t, ht, rfl⟩ := List.mem_map.mp hm
    exact ⟨n, hn, t, ht, rfl⟩
  · rintro ⟨n, hn, t, ht, rfl⟩
    exact ⟨n, hn, List.mem_map.mpr ⟨_, List.mem_map.mpr ⟨t, ht, rfl⟩, rfl⟩⟩
theorem mem_orbC {w h x : Nat} {ns : List Nat} : x ∈ orbC w h ns ↔ ∃ n ∈ ns, ∃ t ∈ allT (decide (w = h)), x = n ^^^ ph w h t n := by
  unfold orbC ways
  rw [List.mem_flatMap]
  constructor
  · rintro ⟨n, hn, hx⟩
    obtain ⟨m, hm, rfl⟩ := List.mem_map.mp hx
    obtain ⟨t, ht, rfl⟩ := List.mem_map.mp hm
    exact ⟨n, hn, t, ht, rfl⟩
  · rintro ⟨n, hn, t, ht, rfl⟩
    exact ⟨n, hn, List.mem_map.mpr ⟨_, List.mem_map.mpr ⟨t, ht, rfl⟩, rfl⟩⟩
theorem lotRows_fold (w h : Nat) (ns : List Nat) : lotRows w h ns = (orb w h ns).foldl LM.join [] := LM.joinAlls_fold _ _ _ _
theorem coreRows_fold (w h : Nat) (ns : List Nat) : coreRows w h ns = (orbC w h ns).foldl LM.join [] := LM.joinAlls_fold _ _ _ _
theorem orb_lt {w h : Nat} {ns : List Nat} : ∀ x ∈ orb w h ns, x < 2 ^ (w * h) := fun x hx => by
  obtain ⟨n, -, t, ht, rfl⟩ := mem_orb.mp hx
  exact ph_lt ht
theorem orbC_lt {w h : Nat} {ns : List Nat} (hn : ∀ n ∈ ns, n < 2 ^ (w * h)) : ∀ x ∈ orbC w h ns, x < 2 ^ (w * h) := fun x hx => by
  obtain ⟨n, h1, t, ht, rfl⟩ := mem_orbC.mp hx
  exact Nat.xor_lt_two_pow (hn n h1) (ph_lt ht)
theorem lot_in {w h n : Nat} {ns : List Nat} (hn : n ∈ ns) {t : Tn} (ht : t ∈ allT (decide (w = h))) : Sp (lotRows w h ns) (ph w h t n) := by
  rw [lotRows_fold]
  exact LM.fold_new Pl.nil orb_lt _ (mem_orb.mpr ⟨n, hn, t, ht, rfl⟩)
theorem lot_xc {w h : Nat} {ns : List Nat} {P : Nat → Prop} (c : Xc P) (hP : ∀ n ∈ ns, ∀ t ∈ allT (decide (w = h)), P (ph w h t n)) : ∀ r ∈ lotRows w h ns, P r := by
  rw [lotRows_fold]
  refine LM.fold_xc c (fun _ hx => nomatch hx) fun x hx => ?_
  obtain ⟨n, hn, t, ht, rfl⟩ := mem_orb.mp hx
  exact hP n hn t ht
theorem lot_cn (w h : Nat) (ns : List Nat) : Cn (w * h) (lotRows w h ns) := by
  rw [lotRows_fold]
  exact Cn.fold Cn.nil orb_lt
theorem core_in {w h n : Nat} {ns : List Nat} (hl : ∀ n ∈ ns, n < 2 ^ (w * h)) (hn : n ∈ ns) {t : Tn} (ht : t ∈ allT (decide (w = h))) : Sp (coreRows w h ns) (n ^^^ ph w h t n) := by
  rw [coreRows_fold]
  exact LM.fold_new Pl.nil (orbC_lt hl) _ (mem_orbC.mpr ⟨n, hn, t, ht, rfl⟩)
theorem core_xc {w h : Nat} {ns : List Nat} {P : Nat → Prop} (c : Xc P) (hP : ∀ n ∈ ns, ∀ t ∈ allT (decide (w = h)), P (n ^^^ ph w h t n)) : ∀ r ∈ coreRows w h ns, P r := by
  rw [coreRows_fold]
  refine LM.fold_xc c (fun _ hx => nomatch hx) fun x hx => ?_
  obtain ⟨n, hn, t, ht, rfl⟩ := mem_orbC.mp hx
  exact hP n hn t ht
theorem core_cn {w h : Nat} {ns : List Nat} (hl : ∀ n ∈ ns, n < 2 ^ (w * h)) : Cn (w * h) (coreRows w h ns) := by
  rw [coreRows_fold]
  exact Cn.fold Cn.nil (orbC_lt hl)
theorem plain_in {B n : Nat} {ns : List Nat} (hl : ∀ n ∈ ns, n < 2 ^ B) (hn : n ∈ ns) : Sp (LM.plain ns) n := LM.fold_new Pl.nil hl n hn
theorem plain_xc {ns : List Nat} {P : Nat → Prop} (c : Xc P) (hP : ∀ n ∈ ns, P n) : ∀ r ∈ LM.plain ns, P r := LM.fold_xc c (fun _ hx => nomatch hx) hP
theorem plain_cn {B : Nat} {ns : List Nat} (hl : ∀ n ∈ ns, n < 2 ^ B) : Cn B (LM.plain ns) := Cn.fold Cn.nil hl
theorem lot_gd (w h : Nat) (ns : List Nat) : Gd w h (lotRows w h ns) := ⟨lot_cn w h ns, fun t ht => lot_xc (ph_xc (Sp.xc _) ht) fun n hn s hs => by
  show Sp _ (ph w h t (ph w h s n))
  rw [ph_mul hs ht]
  exact lot_in hn (mul_mem hs ht)⟩
theorem core_gd {w h : Nat} {L : List Nat} (hl : ∀ n ∈ L, n < 2 ^ (w * h)) : Gd w h (coreRows w h L) := ⟨core_cn hl, fun t ht => core_xc (ph_xc (Sp.xc _) ht) fun n hn s hs => by
  show Sp _ (ph w h t (n ^^^ ph w h s n))
  rw [ph_xor ht, ph_mul hs ht]
  have := (Sp.xc _).x _ _ (core_in hl hn ht) (core_in hl hn (mul_mem hs ht))
  have e : ∀ a b c : Nat, (a ^^^ b) ^^^ (a ^^^ c) = b ^^^ c := fun a b c => by
    rw [Nat.xor_comm a b, Nat.xor_assoc, LM.xor_ca]
  rwa [e] at this⟩
theorem Gd.lt {w h : Nat} {L : List Nat} (g : Gd w h L) : ∀ n ∈ L, n < 2 ^ (w * h) := g.cn.pl.lt
theorem core_sub {w h : Nat} {L : List Nat} (g : Gd w h L) : ∀ r ∈ coreRows w h L, Sp L r := core_xc (Sp.xc L) fun n hn t ht => (Sp.xc L).x _ _ (g.cn.pl.row n hn) (g.cl t ht n hn)
theorem both_lt {w h : Nat} {L M : List Nat} (g : Gd w h L) (k : Gd w h M) : ∀ n ∈ L ++ M, n < 2 ^ (w * h) := fun n hn => (List.mem_append.mp hn).elim (g.lt n) (k.lt n)
theorem both_cl {w h : Nat} {L M : List Nat} (g : Gd w h L) (k : Gd w h M) {t : Tn} (ht : t ∈ allT (decide (w = h))) : ∀ n ∈ L ++ M, Sp (LM.plain (L ++ M)) (K19.ph w h t n) := fun n hn => by
  rcases List.mem_append.mp hn with hn | hn
  · exact Sp.mono (fun r hr => plain_in (both_lt g k) (List.mem_append_left _ hr)) (g.cl t ht n hn)
  · exact Sp.mono (fun r hr => plain_in (both_lt g k) (List.mem_append_right _ hr)) (k.cl t ht n hn)
theorem plain_gd {w h : Nat} {L M : List Nat} (g : Gd w h L) (k : Gd w h M) : Gd w h (LM.plain (L ++ M)) := ⟨plain_cn (both_lt g k), fun t ht => plain_xc (ph_xc (Sp.xc _) ht) (both_cl g k ht)⟩
theorem lot_self {w h : Nat} {L : List Nat} (g : Gd w h L) : lotRows w h L = L := Cn.eq (lot_cn w h L) g.cn (lot_xc (Sp.xc L) fun n hn t ht => g.cl t ht n hn) fun r hr => by
  have := lot_in (w := w) (h := h) hr idT_mem
  rwa [show K19.ph w h idT r = r from ph_id (g.lt r hr)] at this
theorem lot_both {w h : Nat} {L M : List Nat} (g : Gd w h L) (k : Gd w h M) : lotRows w h (L ++ M) = LM.plain (L ++ M) := Cn.eq (lot_cn w h _) (plain_cn (both_lt g k)) (lot_xc (Sp.xc _) fun n hn t ht => both_cl g k ht n hn) (plain_xc (Sp.xc _) fun n hn => by
  have := lot_in (w := w) (h := h) hn idT_mem
  rwa [show K19.ph w h idT n = n from ph_id (both_lt g k n hn)] at this)
end K19

set_option linter.all false
set_option maxRecDepth 100000
namespace K19
open PySem L2 MM
open LM (mv1 moved Pl Xc Sp Cn parL)
variable {w h : Nat}
theorem unit {j : Nat} (hj : j < w * h) : parL (cells w h) (fun p => decide (j = cb w h p)) = true := by
  obtain ⟨q, hq, rfl⟩ := cb_onto hj
  rw [← LM.parL_one (cells_nd w h) hq]
  exact LM.parL_congr fun p hp => decide_eq_decide.mpr ⟨fun e => (cb_inj hq hp e).symm, fun e => by rw [e]⟩
theorem log_lt {n B : Nat} (h0 : 0 < n) (hn : n < 2 ^ B) : n.log2 < B := (Nat.log2_lt (by omega)).mpr hn
theorem comb_even {k : Nat} {L : List Nat} (p : Pl (w * h) L) (hk : k < w * h) (hn : ∀ r ∈ L, r.log2 ≠ k) {s : Nat} (hs : s ∈ L) : par w h (LM.combAt L k) s = false := by
  unfold par
  rw [LM.parL_congr fun q _ => LM.comb_row p hn hs (cb w h q)]
  cases s.testBit k
  · exact LM.parL_false fun _ _ => rfl
  · show parL (cells w h) (fun q => decide (k = cb w h q) ^^ decide (s.log2 = cb w h q)) = false
    rw [LM.parL_xor, unit hk, unit (log_lt (p.pos s hs) (p.lt s hs))]
    rfl
theorem comb_odd {L : List Nat} {x : Nat} (p : Pl (w * h) L) (x0 : 0 < x) (xl : x < 2 ^ (w * h)) (hx : ∀ r ∈ L, x.testBit r.log2 = false) : par w h (LM.combAt L x.log2) x = true := by
  rw [← unit (w := w) (h := h) (log_lt x0 xl)]
  refine LM.parL_congr fun q hq => ?_
  rw [LM.combAt_bit]
  by_cases e : x.log2 = cb w h q
  · rw [decide_eq_true e, ← e, LM.testBit_log2 x0]
    rfl
  · rw [decide_eq_false e, Bool.false_or]
    cases ha : L.any fun r => r.testBit x.log2 && decide (r.log2 = cb w h q)
    · rfl
    · obtain ⟨r, hr, hb⟩ := List.any_eq_true.mp ha
      simp at hb
      rw [Bool.true_and, ← hb.2]
      exact hx r hr
/-- even on all rows -/
structure An (w h : Nat) (L : List Nat) (c : Nat) : Prop where
  lt : c < 2 ^ (w * h)
  ev : ∀ s ∈ L, par w h c s = false
theorem par_xor' (w h a b c : Nat) : par w h (a ^^^ b) c = (par w h a c ^^ par w h b c) := by
  rw [par_comm, par_xor, par_comm w h c a, par_comm w h c b]
theorem ev_xc (w h : Nat) (s : Nat) : Xc fun c => par w h c s = false := ⟨by rw [par_comm, par_zero], fun a b ha hb => by rw [par_xor', ha, hb]; rfl⟩
theorem ev_xc2 (w h : Nat) (c : Nat) : Xc fun s => par w h c s = false := ⟨par_zero w h c, fun a b ha hb => by rw [par_xor, ha, hb]; rfl⟩
theorem free_iff {L : List Nat} {k : Nat} : LM.firsts L &&& 2 ^ k = 0 ↔ ∀ r ∈ L, r.log2 ≠ k := by
  rw [LM.and_pow_zero, LM.firsts_bit, List.any_eq_false]
  exact ⟨fun h r hr e => h r hr (decide_eq_true e), fun h r hr e => h r hr (of_decide_eq_true e)⟩
theorem ag_mem {L : List Nat} {c : Nat} : c ∈ (((cells w h).map (cb w h)).filter fun k => decide (LM.firsts L &&& 2 ^ k = 0)).map (LM.combAt L) ↔ ∃ k, k < w * h ∧ (∀ r ∈ L, r.log2 ≠ k) ∧ c = LM.combAt L k := by
  constructor
  · intro hc
    obtain ⟨k, hk, rfl⟩ := List.mem_map.mp hc
    obtain ⟨h1, h2⟩ := List.mem_filter.mp hk
    obtain ⟨q, hq, rfl⟩ := List.mem_map.mp h1
    obtain ⟨a, b⟩ := mem_cells.mp hq
    exact ⟨_, cb_lt a b, free_iff.mp (of_decide_eq_true h2), rfl⟩
  · rintro ⟨k, hk, hf, rfl⟩
    obtain ⟨q, hq, rfl⟩ := cb_onto hk
    exact List.mem_map.mpr ⟨_, List.mem_filter.mpr ⟨List.mem_map.mpr ⟨q, hq, rfl⟩, decide_eq_true (free_iff.mpr hf)⟩, rfl⟩
theorem ag_lt {L : List Nat} (p : Pl (w * h) L) : ∀ c ∈ (((cells w h).map (cb w h)).filter fun k => decide (LM.firsts L &&& 2 ^ k = 0)).map (LM.combAt L), c < 2 ^ (w * h) := fun c hc => by
  obtain ⟨k, hk, -, rfl⟩ := ag_mem.mp hc
  exact LM.comb_lt p hk
theorem ag_an {L : List Nat} (p : Pl (w * h) L) : ∀ c ∈ agRows w h L, An w h L c := fun c hc => ⟨(agRows_pl p).lt c hc, fun s hs => plain_xc (ev_xc w h s) (fun c hc => by
  obtain ⟨k, hk, hf, rfl⟩ := ag_mem.mp hc
  exact comb_even p hk hf hs) c hc⟩
theorem ag_go {L : List Nat} (p : Pl (w * h) L) : ∀ (l : List Nat) (c : Nat), An w h L c → (∀ j, c.testBit j = true → (∃ r ∈ L, r.log2 = j) ∨ j ∈ l) → (∀ k ∈ l, k < w * h ∧ ∀ r ∈ L, r.log2 ≠ k) → Sp (agRows w h L) c
  | [], c, a, hb, _ => by
    have hb : ∀ j, c.testBit j = true → ∃ r ∈ L, r.log2 = j := fun j hj => (hb j hj).elim id fun q => nomatch q
    have : c = 0 := by
      by_cases c0 : c = 0
      · exact c0
      exfalso
      obtain ⟨r, hr, e⟩ := hb c.log2 (LM.testBit_log2 (by omega))
      have ev := a.ev r hr
      have od : par w h c r = true := by
        rw [← unit (w := w) (h := h) (log_lt (by omega) a.lt)]
        refine LM.parL_congr fun q hq => ?_
        by_cases e1 : c.log2 = cb w h q
        · rw [decide_eq_true e1, ← e1, LM.testBit_log2 (by omega), ← e, LM.testBit_log2 (p.pos r hr)]
          rfl
        · rw [decide_eq_false e1]
          cases e2 : c.testBit (cb w h q)
          · rfl
          · obtain ⟨s, hs, e3⟩ := hb _ e2
            rw [Bool.true_and, ← e3]
            exact p.apart_ hr hs (by omega)
      rw [od] at ev
      cases ev
    rw [this]
    exact (Sp.xc _).z
  | k :: l, c, a, hb, hl => by
    obtain ⟨hk, hf⟩ := hl k (List.mem_cons_self ..)
    have hl' := fun x hx => hl x (List.mem_cons_of_mem _ hx)
    by_cases hc : c.testBit k = true
    · have an : An w h L (c ^^^ LM.combAt L k) := ⟨Nat.xor_lt_two_pow a.lt (LM.comb_lt p hk), fun s hs => by rw [par_xor', a.ev s hs, comb_even p hk hf hs]; rfl⟩
      have sp := ag_go p l _ an (fun j hj => by
        rw [Nat.testBit_xor, LM.combAt_bit] at hj
        by_cases e : k = j
        · rw [decide_eq_true e, ← e, hc] at hj
          cases hj
        rw [decide_eq_false e, Bool.false_or] at hj
        cases ha : L.any fun r => r.testBit k && decide (r.log2 = j)
        · rw [ha, Bool.xor_false] at hj
          rcases hb j hj with q | q
          · exact .inl q
          · rcases List.mem_cons.mp q with q | q
            · exact absurd q.symm e
            · exact .inr q
        · obtain ⟨r, hr, hb⟩ := List.any_eq_true.mp ha
          simp at hb
          exact .inl ⟨r, hr, hb.2⟩) hl'
      have := (Sp.xc _).x _ _ sp (plain_in (ag_lt p) (ag_mem.mpr ⟨k, hk, hf, rfl⟩))
      rwa [LM.xor_cc] at this
    · refine ag_go p l c a (fun j hj => ?_) hl'
      rcases hb j hj with q | q
      · exact .inl q
      · rcases List.mem_cons.mp q with q | q
        · rw [q] at hj
          exact absurd hj hc
        · exact .inr q
theorem ag_in {L : List Nat} (p : Pl (w * h) L) {c : Nat} (a : An w h L c) : Sp (agRows w h L) c := by
  refine ag_go p ((List.range (w * h)).filter fun k => decide (LM.firsts L &&& 2 ^ k = 0)) c a (fun j hj => ?_) fun k hk => ?_
  · have jl : j < w * h := by
      by_cases q : j < w * h
      · exact q
      · have := Nat.testBit_lt_two_pow (Nat.lt_of_lt_of_le a.lt (Nat.pow_le_pow_right (by decide) (by omega : w * h ≤ j)))
        rw [this] at hj
        cases hj
    by_cases q : ∃ r ∈ L, r.log2 = j
    · exact .inl q
    · exact .inr (List.mem_filter.mpr ⟨List.mem_range.mpr jl, decide_eq_true (free_iff.mpr fun r hr e => q ⟨r, hr, e⟩)⟩)
  · obtain ⟨h1, h2⟩ := List.mem_filter.mp hk
    exact ⟨List.mem_range.mp h1, free_iff.mp (of_decide_eq_true h2)⟩
theorem ag_gd {L : List Nat} (g : Gd w h L) : Gd w h (agRows w h L) := ⟨plain_cn (ag_lt g.cn.pl), fun t ht r hr => ag_in g.cn.pl ⟨ph_lt ht, fun s hs => by
  rw [par_ph ht]
  exact Sp.least (ev_xc2 w h r) (ag_an g.cn.pl r hr).ev (g.cl _ (inv_mem ht) s hs)⟩⟩
theorem met_gd {L M : List Nat} (g : Gd w h L) (k : Gd w h M) : Gd w h (metRows w h L M) := ag_gd (plain_gd (ag_gd g) (ag_gd k))
/-! ### what stays still -/
theorem ring_go {p : Nat × Nat} {j : Nat} : ∀ (l : List (List (Nat × Nat))) (r : Nat), (l.foldl (fun r m => r ||| moved m (2 ^ cb w h p)) r).testBit j = (r.testBit j || l.any fun m => (moved m (2 ^ cb w h p)).testBit j)
  | [], r => by simp
  | m :: l, r => by
    show (l.foldl _ (r ||| moved m (2 ^ cb w h p))).testBit j = _
    rw [ring_go l, List.any_cons, Nat.testBit_or, Bool.or_assoc]
theorem ring_bit {p q : Nat × Nat} (hp : p ∈ cells w h) (hq : q ∈ cells w h) : (ring w h p).testBit (cb w h q) = true ↔ ∃ t ∈ allT (decide (w = h)), tau w h (invT t) q = p := by
  unfold ring
  rw [ring_go, Nat.zero_testBit, Bool.false_or, List.any_eq_true]
  constructor
  · rintro ⟨m, hm, hb⟩
    obtain ⟨t, ht, rfl⟩ := List.mem_map.mp hm
    rw [moved_bit ht hq, Nat.testBit_two_pow] at hb
    exact ⟨t, ht, (cb_inj hp (tau_in (inv_mem ht) hq) (of_decide_eq_true hb)).symm⟩
  · rintro ⟨t, ht, rfl⟩
    refine ⟨_, List.mem_map.mpr ⟨t, ht, rfl⟩, ?_⟩
    rw [moved_bit ht hq, Nat.testBit_two_pow]
    simp
theorem ring_ph {p : Nat × Nat} (hp : p ∈ cells w h) {s : Tn} (hs : s ∈ allT (decide (w = h))) : ph w h s (ring w h p) = ring w h p := by
  refine num_ext (ph_lt hs) (ring_lt w h p) fun q hq => ?_
  have hi := inv_mem hs
  have s3 := (mem_allT.mp hs).1
  have hx := tau_in hi hq
  show (moved (mvs w h s) (ring w h p)).testBit (cb w h q) = _
  rw [moved_bit hs hq, Bool.eq_iff_iff, ring_bit hp hx, ring_bit hp hq]
  constructor
  · rintro ⟨t, ht, e⟩
    refine ⟨mulT t s, mul_mem ht hs, ?_⟩
    rw [← inv_mul (mem_allT.mp ht).1 s3, ← tau_mul hi (inv_mem ht) hq]
    exact e
  · rintro ⟨t, ht, e⟩
    refine ⟨mulT t (invT s), mul_mem ht hi, ?_⟩
    rw [← inv_mul (mem_allT.mp ht).1 (mem_allT.mp hi).1, ← tau_mul (inv_mem hi) (inv_mem ht) hx, (tau_inv hi hq).2]
    exact e
theorem still_gd : Gd w h (stillRows w h) := by
  have lt : ∀ n ∈ (cells w h).map (ring w h), n < 2 ^ (w * h) := fun n hn => by
    obtain ⟨p, -, rfl⟩ := List.mem_map.mp hn
    exact ring_lt w h p
  refine ⟨plain_cn lt, fun t ht => plain_xc (ph_xc (Sp.xc _) ht) fun n hn => ?_⟩
  obtain ⟨p, hp, rfl⟩ := List.mem_map.mp hn
  show Sp _ (ph w h t (ring w h p))
  rw [ring_ph hp ht]
  exact plain_in lt (List.mem_map.mpr ⟨p, hp, rfl⟩)
end K19

set_option linter.all false
set_option maxRecDepth 100000
namespace LM
open PySem L2 MM
theorem apart_fst : ∀ (ns : List Nat) (s : List Nat × List Nat), (ns.foldl apart1 s).1 = ns.foldl join s.1
  | [], _ => rfl
  | n :: ns, s => by
    show (ns.foldl apart1 (apart1 s n)).1 = ns.foldl join (join s.1 n)
    rw [apart_fst ns]
    congr 1
    unfold apart1
    split
    · rename_i h
      show s.1 = join s.1 n
      unfold join
      rw [if_pos h]
    · rfl
theorem apart_many : ∀ (ns : List Nat) (s : List Nat × List Nat), (ns.foldl apart1 s).2.length + s.1.length = s.2.length + (ns.foldl join s.1).length
  | [], s => rfl
  | n :: ns, s => by
    show (ns.foldl apart1 (apart1 s n)).2.length + s.1.length = s.2.length + (ns.foldl join (join s.1 n)).length
    have ih := apart_many ns (apart1 s n)
    have jl := join_len (L := s.1) (n := n)
    unfold apart1 at ih ⊢
    by_cases h : sift s.1 n = 0
    · rw [if_pos h] at ih ⊢
      have : join s.1 n = s.1 := by unfold join; rw [if_pos h]
      rw [this]
      exact ih
    · rw [if_neg h] at ih ⊢
      rw [if_neg h] at jl
      have : (s.2 ++ [n]).length = s.2.length + 1 := by simp
      rw [this] at ih
      have ih : (ns.foldl apart1 (join s.1 n, s.2 ++ [n])).2.length + (join s.1 n).length = s.2.length + 1 + (ns.foldl join (join s.1 n)).length := ih
      show (ns.foldl apart1 (join s.1 n, s.2 ++ [n])).2.length + s.1.length = s.2.length + (ns.foldl join (join s.1 n)).length
      rw [jl] at ih
      omega
theorem apart_old : ∀ (ns : List Nat) (s : List Nat × List Nat), ∀ x ∈ s.2, x ∈ (ns.foldl apart1 s).2
  | [], _, x, h => h
  | n :: ns, s, x, h => apart_old ns (apart1 s n) x (by
    unfold apart1
    split
    · exact h
    · exact List.mem_append_left _ h)
theorem apart_xc {P : Nat → Prop} (c : Xc P) : ∀ (ns : List Nat) (s : List Nat × List Nat), (∀ r ∈ s.1, P r) → (∀ x ∈ (ns.foldl apart1 s).2, P x) → ∀ r ∈ (ns.foldl apart1 s).1, P r
  | [], _, h, _ => h
  | n :: ns, s, h, hx => apart_xc c ns (apart1 s n) (by
    have old := apart_old ns (apart1 s n)
    have hx : ∀ x ∈ (ns.foldl apart1 (apart1 s n)).2, P x := hx
    unfold apart1 at old hx ⊢
    split
    · exact h
    · rename_i h0
      rw [if_neg h0] at old hx
      exact c.join h (hx n (old n (List.mem_append_right _ (List.mem_singleton.mpr rfl))))) hx
theorem fold_none : ∀ {ns L : List Nat}, (ns.foldl join L).length = L.length → ∀ n ∈ ns, Sp L n
  | n :: ns, L, h, m, hm => by
    have h : (ns.foldl join (join L n)).length = L.length := h
    have a := (fold_len (ns := ns) (L := join L n)).2
    have b := join_len (L := L) (n := n)
    have s0 : sift L n = 0 := by
      by_cases q : sift L n = 0
      · exact q
      · rw [if_neg q] at b
        omega
    have e : join L n = L := by unfold join; rw [if_pos s0]
    rw [e] at h
    rcases List.mem_cons.mp hm with rfl | hm
    · exact s0
    · exact fold_none h m hm
end LM
namespace K19
open PySem L2 MM
open LM (mv1 moved Pl Xc Sp Cn parL)
variable {w h : Nat} {L : List Nat}
def mkr (w h : Nat) (L : List Nat) : List Nat := LM.apart (coreRows w h L) L
theorem mkr_in : ∀ x ∈ mkr w h L, x ∈ L := fun x hx => (LM.apart_mem (ns := L) (s := (coreRows w h L, [])) x hx).elim (fun q => nomatch q) id
theorem fold_core (g : Gd w h L) : L.foldl LM.join (coreRows w h L) = L := Cn.fill (core_cn g.lt) g.cn g.lt (core_sub g) g.cn.pl.row (LM.fold_new (core_cn g.lt).pl g.lt)
theorem mkr_len (g : Gd w h L) : (mkr w h L).length + (coreRows w h L).length = L.length := by
  have := LM.apart_many L (coreRows w h L, [])
  rw [fold_core g] at this
  have this : (mkr w h L).length + (coreRows w h L).length = 0 + L.length := this
  omega
theorem lay_succ (w h : Nat) : ∀ (k : Nat) (L : List Nat), lay w h (k + 1) L = coreRows w h (lay w h k L)
  | 0, _ => rfl
  | k + 1, L => by
    show lay w h (k + 1) (coreRows w h L) = _
    rw [lay_succ w h k]
    rfl
def Qk (w h : Nat) (L M : List Nat) (k n : Nat) : Prop := ∃ m, Sp M m ∧ Sp (lay w h k L) (n ^^^ m)
theorem xor_ac (a b x y : Nat) : (a ^^^ x) ^^^ (b ^^^ y) = (a ^^^ b) ^^^ (x ^^^ y) := by
  rw [Nat.xor_assoc, Nat.xor_assoc, ← Nat.xor_assoc x b y, Nat.xor_comm x b, Nat.xor_assoc b x y]
theorem Qk.xc (w h : Nat) (L M : List Nat) (k : Nat) : Xc (Qk w h L M k) := ⟨⟨0, (Sp.xc _).z, (Sp.xc _).z⟩, fun a b ⟨m, h1, h2⟩ ⟨n, h3, h4⟩ => ⟨m ^^^ n, (Sp.xc _).x _ _ h1 h3, by
  rw [xor_ac a m b n] 
  exact (Sp.xc _).x _ _ h2 h4⟩⟩
/-- the makers make it -/
theorem mkr_lot (g : Gd w h L) : lotRows w h (mkr w h L) = L := by
  have gm := lot_gd w h (mkr w h L)
  refine Cn.eq gm.cn g.cn (lot_xc (Sp.xc L) fun n hn t ht => g.cl t ht n (mkr_in n hn)) fun r hr => ?_
  have step : ∀ k, ∀ r ∈ L, Qk w h L (lotRows w h (mkr w h L)) k r := fun k => by
    induction k with
    | zero => exact fun r hr => ⟨0, (Sp.xc _).z, by rw [Nat.xor_zero]; exact g.cn.pl.row r hr⟩
    | succ k ih =>
      have all : ∀ n, Sp L n → Qk w h L (lotRows w h (mkr w h L)) k n := fun n hn => Sp.least (Qk.xc w h L _ k) ih hn
      have lp := lay_pl k L g.cn.pl
      have core : ∀ r ∈ coreRows w h L, Qk w h L (lotRows w h (mkr w h L)) (k + 1) r := core_xc (Qk.xc w h L _ (k + 1)) fun n hn t ht => by
        obtain ⟨m, h1, h2⟩ := ih n hn
        refine ⟨m ^^^ ph w h t m, (Sp.xc _).x _ _ h1 (gm.ph ht h1), ?_⟩
        rw [xor_ac, ← ph_xor ht, lay_succ]
        refine Sp.least (P := fun c => Sp (coreRows w h (lay w h k L)) (c ^^^ ph w h t c)) ⟨?_, fun a b ha hb => ?_⟩ (fun c hc => core_in lp.lt hc ht) h2
        · show Sp _ (0 ^^^ ph w h t 0)
          rw [ph_zero ht]
          exact (Sp.xc _).z
        · show Sp _ ((a ^^^ b) ^^^ ph w h t (a ^^^ b))
          rw [ph_xor ht, xor_ac]
          exact (Sp.xc _).x _ _ ha hb
      have := LM.apart_xc (Qk.xc w h L (lotRows w h (mkr w h L)) (k + 1)) L (coreRows w h L, []) core fun f hf => ⟨f, by
        have := lot_in (w := w) (h := h) (ns := mkr w h L) hf idT_mem
        rwa [show K19.ph w h idT f = f from ph_id (g.lt f (mkr_in f hf))] at this, by rw [Nat.xor_self]; exact (Sp.xc _).z⟩
      rw [LM.apart_fst, fold_core g] at this
      exact this
  obtain ⟨m, h1, h2⟩ := step 5 r hr
  rw [lay5 g.cn.pl] at h2
  have : r = m := LM.xor_eq0 h2
  rw [this]
  exact h1
/-- and none of them can be left out -/
theorem mkr_less (g : Gd w h L) {F : List Nat} (hF : ∀ f ∈ F, f ∈ L) (hl : F.length < (mkr w h L).length) : (lotRows w h F).length < L.length := by
  have gm := lot_gd w h F
  have ml := mkr_len g
  have sub : ∀ r ∈ lotRows w h F, Sp L r := lot_xc (Sp.xc L) fun n hn t ht => g.cl t ht n (hF n hn)
  have e1 : L.foldl LM.join (lotRows w h F) = L := Cn.fill gm.cn g.cn g.lt sub g.cn.pl.row (LM.fold_new gm.cn.pl g.lt)
  have l1 := (LM.fold_len (ns := L) (L := lotRows w h F)).2
  rw [e1] at l1
  rcases Nat.lt_or_ge (lotRows w h F).length L.length with q | q
  · exact q
  exfalso
  have all : ∀ r ∈ L, Sp (lotRows w h F) r := LM.fold_none (by rw [e1]; omega)
  have fl : ∀ f ∈ F, f < 2 ^ (w * h) := fun f hf => g.lt f (hF f hf)
  have cc := core_cn (w := w) (h := h) g.lt
  have e2 : F.foldl LM.join (coreRows w h L) = L := Cn.fill cc g.cn fl (core_sub g) (fun f hf => g.cn.pl.row f (hF f hf)) fun r hr => Sp.mono (lot_xc (Sp.xc _) fun f hf t ht => by
    have a := LM.fold_new cc.pl fl f hf
    have b := LM.fold_old cc.pl fl (core_in (w := w) (h := h) g.lt (hF f hf) ht)
    have := (Sp.xc _).x _ _ a b
    rwa [LM.xor_ca] at this) (all r hr)
  have l2 := (LM.fold_len (ns := F) (L := coreRows w h L)).1
  rw [e2] at l2
  omega
/-! ### members and combs -/
theorem comb_members (g : Gd w h L) {x : Nat} (x0 : 0 < x) (xl : x < 2 ^ (w * h)) (hx : ∀ r ∈ L, x.testBit r.log2 = false) {n : Nat} (hn : Sp L n) : par w h (LM.combAt L x.log2) n = false :=
  Sp.least (ev_xc2 w h _) (fun s hs => comb_even g.cn.pl (log_lt x0 xl) (fun r hr e => by
    have := hx r hr
    rw [e, LM.testBit_log2 x0] at this
    cases this) hs) hn
theorem comb_face (g : Gd w h L) {N : Nat} (hN : N < 2 ^ (w * h)) (h0 : LM.sift L N ≠ 0) : par w h (LM.combAt L (LM.sift L N).log2) N = true ∧ ∀ n, Sp L n → par w h (LM.combAt L (LM.sift L N).log2) n = false := by
  have x0 : 0 < LM.sift L N := by omega
  have xl := LM.sift_lt g.cn.pl.lt hN
  have fr := LM.sift_free (n := N) g.cn.pl.pos g.cn.pl.one
  have ev := fun n (hn : Sp L n) => comb_members g x0 xl fr hn
  refine ⟨?_, ev⟩
  have a := ev _ (g.cn.pl.off N)
  have b := comb_odd g.cn.pl x0 xl fr
  rw [par_xor, b] at a
  cases q : par w h (LM.combAt L (LM.sift L N).log2) N
  · rw [q] at a; cases a
  · rfl
end K19

set_option linter.all false
set_option maxRecDepth 100000
namespace K19
open PySem L2 MM
open LM (mv1 moved Pl Xc Sp Cn parL valB)
theorem range_sq {α : Type} (f : Nat → Nat → α) (w : Nat) : ∀ h, ((List.range h).flatMap fun y => (List.range w).map fun x => f x y) = (List.range (w * h)).map fun i => f (i % w) (i / w)
  | 0 => rfl
  | h + 1 => by
    rw [List.range_succ, List.flatMap_append, range_sq f w h, Nat.mul_succ, List.range_add, List.map_append]
    congr 1
    rw [List.flatMap_cons, List.flatMap_nil, List.append_nil, List.map_map]
    refine List.map_congr_left fun x hx => ?_
    have hx := List.mem_range.mp hx
    show f x h = f ((w * h + x) % w) ((w * h + x) / w)
    rw [Nat.mul_add_mod, Nat.mod_eq_of_lt hx, Nat.mul_add_div (by omega), Nat.div_eq_of_lt hx, Nat.add_zero]
theorem valB_hi : ∀ (l : List Bool) (s i : Nat), (valB l s).testBit (l.length + i) = s.testBit i
  | [], s, i => by rw [List.length_nil, Nat.zero_add]; rfl
  | b :: r, s, i => by
    show (valB r (2 * s + b.toNat)).testBit (r.length + 1 + i) = _
    rw [show r.length + 1 + i = r.length + (i + 1) from by omega, valB_hi r, Nat.testBit_succ]
    congr 1
    cases b <;> simp <;> omega
theorem valB_lo : ∀ (l : List Bool) (s j : Nat), j < l.length → (valB l s).testBit j = l.getD (l.length - 1 - j) false
  | b :: r, s, j, h => by
    show (valB r (2 * s + b.toNat)).testBit j = _
    have hl : (b :: r).length = r.length + 1 := rfl
    rw [hl] at h ⊢
    by_cases e : j < r.length
    · rw [valB_lo r _ j e, show r.length + 1 - 1 - j = (r.length - 1 - j) + 1 from by omega, List.getD_cons_succ]
    · have : j = r.length + 0 := by omega
      rw [this, valB_hi, show r.length + 1 - 1 - (r.length + 0) = 0 from by omega, List.getD_cons_zero]
      cases b <;> simp [Nat.testBit_zero]
theorem bitsN_bit {w h : Nat} {c : Cell} {x y : Nat} (hx : x < w) (hy : y < h) : (bitsN w h c).testBit (cb w h (x, y)) = c x y := by
  rw [bitsN_eq, range_sq]
  have lt := cell_lt (w := w) (h := h) (p := (x, y)) hx hy
  have lt : w * y + x < w * h := lt
  rw [valB_lo _ _ _ (by rw [List.length_map, List.length_range]; exact cb_lt hx hy), List.length_map, List.length_range]
  have : w * h - 1 - cb w h (x, y) = w * y + x := by
    unfold cb
    show w * h - 1 - (w * h - 1 - w * y - x) = _
    omega
  rw [this, List.getD_eq_getElem?_getD, List.getElem?_map, List.getElem?_range lt]
  show c ((w * y + x) % w) ((w * y + x) / w) = _
  rw [Nat.mul_add_mod, Nat.mod_eq_of_lt hx, Nat.mul_add_div (by omega), Nat.div_eq_of_lt hx, Nat.add_zero]
theorem face_bits (w h : Nat) (c : Cell) : faceN w h (bitsN w h c) = fD w h c := fD_congr fun x y hx hy => bitsN_bit hx hy
theorem bits_cell {w h n : Nat} (hn : n < 2 ^ (w * h)) : bitsN w h (cellN w h n) = n := num_ext (bitsN_lt w h _) hn fun q hq => by
  obtain ⟨h1, h2⟩ := mem_cells.mp hq
  exact bitsN_bit h1 h2
theorem bits_cells {w h : Nat} {L : List Nat} (hl : ∀ n ∈ L, n < 2 ^ (w * h)) : (L.map (cellN w h)).map (bitsN w h) = L := by
  rw [List.map_map]
  conv => rhs; rw [← List.map_id L]
  exact List.map_congr_left fun n hn => bits_cell (hl n hn)
theorem faceN_inj {w h a b : Nat} (ha : a < 2 ^ (w * h)) (hb : b < 2 ^ (w * h)) (e : faceN w h a = faceN w h b) : a = b := num_ext ha hb fun q hq => by
  obtain ⟨h1, h2⟩ := mem_cells.mp hq
  exact fD_inj e h1 h2
theorem faces_inj {w h : Nat} : ∀ {L M : List Nat}, (∀ n ∈ L, n < 2 ^ (w * h)) → (∀ n ∈ M, n < 2 ^ (w * h)) → L.map (faceN w h) = M.map (faceN w h) → L = M
  | [], [], _, _, _ => rfl
  | a :: L, b :: M, h1, h2, e => by
    rw [List.map_cons, List.map_cons] at e
    obtain ⟨e1, e2⟩ := List.cons.inj e
    rw [faceN_inj (h1 a (List.mem_cons_self ..)) (h2 b (List.mem_cons_self ..)) e1, faces_inj (fun n hn => h1 n (List.mem_cons_of_mem _ hn)) (fun n hn => h2 n (List.mem_cons_of_mem _ hn)) e2]
/-! ### what is odd -/
theorem tand_ev {t u : MT} {δ : DL} {ah ah1 : AH} {a b : Bool} (h : t δ ah = some (a, ah1)) (h2 : u δ ah1 = some (b, ah1)) : tAndM t u δ ah = some (a && b, ah1) := by
  cases a
  · exact tand_f h
  · exact (tand_t h).trans h2
theorem odd_len {α : Type} {f : α → Bool} : ∀ l : List α, decide ((l.filter f).length % 2 = 1) = parL l f
  | [] => rfl
  | x :: l => by
    rw [LM.parL_cons, ← odd_len l, List.filter_cons]
    cases f x
    · simp
    · show decide (((l.filter f).length + 1) % 2 = 1) = _
      rw [Bool.true_xor, ← decide_not]
      exact decide_eq_decide.mpr (by omega)
theorem par_app {α : Type} {f : α → Bool} : ∀ l m : List α, parL (l ++ m) f = (parL l f ^^ parL m f)
  | [], m => by show _ = (false ^^ _); rw [Bool.false_xor]; rfl
  | x :: l, m => by rw [List.cons_append, LM.parL_cons, LM.parL_cons, par_app l m, Bool.xor_assoc]
theorem odd_sum {w : Nat} {f : Nat × Nat → Bool} : ∀ (l : List Nat) (m : Nat), decide ((l.foldl (fun m y => m + ((List.range w).filter fun x => f (x, y)).length) m) % 2 = 1) = (decide (m % 2 = 1) ^^ parL (l.flatMap fun y => (List.range w).map fun x => (x, y)) f)
  | [], m => by show _ = (_ ^^ false); rw [Bool.xor_false]; rfl
  | y :: l, m => by
    rw [List.flatMap_cons, par_app, ← Bool.xor_assoc, LM.parL_map, ← odd_len]
    show decide ((l.foldl _ (m + ((List.range w).filter fun x => f (x, y)).length)) % 2 = 1) = _
    rw [odd_sum l]
    congr 1
    generalize ((List.range w).filter fun x => f (x, y)).length = k
    by_cases e1 : m % 2 = 1 <;> by_cases e2 : k % 2 = 1
    · rw [decide_eq_true e1, decide_eq_true e2, decide_eq_false (by omega)]; rfl
    · rw [decide_eq_true e1, decide_eq_false e2, decide_eq_true (by omega)]; rfl
    · rw [decide_eq_false e1, decide_eq_true e2, decide_eq_true (by omega)]; rfl
    · rw [decide_eq_false e1, decide_eq_false e2, decide_eq_false (by omega)]; rfl
def both (w h : Nat) (c d : Cell) : Bool := parL (cells w h) fun p => c p.1 p.2 && d p.1 p.2
theorem both_par (w h a b : Nat) : both w h (cellN w h a) (cellN w h b) = par w h a b := rfl
theorem both_face {w h a : Nat} {c : Cell} : both w h (cellN w h a) c = par w h a (bitsN w h c) := LM.parL_congr fun p hp => by
  obtain ⟨h1, h2⟩ := mem_cells.mp hp
  rw [show (bitsN w h c).testBit (cb w h p) = c p.1 p.2 from bitsN_bit h1 h2]
  rfl
theorem ev_odd {w h : Nat} (W : Wh w h) (c d : Cell) (ah : AH) : f__law_odd [fD w h c, fD w h d] ah = some (.bl (both w h c d), ah) := by
  have w6 := W.w6; have h6 := W.h6
  obtain ⟨δ', e, x, rfl⟩ := for_fold (g := tgN 3) (b := sAsg (tgN 2) (eBin gAdd (eVar 2) (e1 gLen (eFrz (fComp (iRng1M (e1 gLen (eIx (eVar 0) (eVar 3)))) (tgN 4) (tAndM (tOf (eBin gEq (eIx (eIx (eVar 0) (eVar 3)) (eVar 4)) (eC (.str "o")))) (tOf (eBin gEq (eIx (eIx (eVar 1) (eVar 3)) (eVar 4)) (eC (.str "o"))))) (eVar 4) [4]))))) (i := nD) (f := fun m y => m + ((List.range w).filter fun x => c x y && d x y).length) (J := fun m δ => ∃ x, δ = [some (fD w h c), some (fD w h d), some (nD m), x, none]) (ah := ah) (l := List.range h) (s := 0) (δ := [some (fD w h c), some (fD w h d), some (nD 0), none, none]) ⟨_, rfl⟩ (by
    rintro y hy m δ ⟨x, rfl⟩
    have hy := List.mem_range.mp hy
    refine ⟨_, [some (fD w h c), some (fD w h d), some (nD (m + ((List.range w).filter fun x => c x y && d x y).length)), some (nD y), none], rfl, ?_, _, rfl⟩
    have ln := len_str (m := eIx (eVar 0) (eVar 3)) (δ := [some (fD w h c), some (fD w h d), some (nD m), some (nD y), none]) (ah := ah) (ix_tup (i := y) rfl rfl (fD_row hy)) (by rw [rowS_len]; omega)
    rw [rowS_len] at ln
    have cm : eFrz (fComp (iRng1M (e1 gLen (eIx (eVar 0) (eVar 3)))) (tgN 4) (tAndM (tOf (eBin gEq (eIx (eIx (eVar 0) (eVar 3)) (eVar 4)) (eC (.str "o")))) (tOf (eBin gEq (eIx (eIx (eVar 1) (eVar 3)) (eVar 4)) (eC (.str "o"))))) (eVar 4) [4]) [some (fD w h c), some (fD w h d), some (nD m), some (nD y), none] ah = some (.lst (((List.range w).filter fun x => c x y && d x y).map nD), ah) := by
      refine frz_ev ((comp_ev (rng1 ln (by omega)) (by simp; omega)).trans (compGo_filter (i := nD) (f := nD) fun x hx => ?_))
      have hx := List.mem_range.mp hx
      refine ⟨[some (fD w h c), some (fD w h d), some (nD m), some (nD y), some (nD x)], rfl, ?_, fun _ => rfl⟩
      have t1 := tof_ev (eq_str (b := eC (.str "o")) (fD_cell (m := eVar 0) (i := eVar 3) (j := eVar 4) (δ := [some (fD w h c), some (fD w h d), some (nD m), some (nD y), some (nD x)]) (ah := ah) (c := c) w6 hx hy rfl rfl rfl) rfl)
      have t2 := tof_ev (eq_str (b := eC (.str "o")) (fD_cell (m := eVar 1) (i := eVar 3) (j := eVar 4) (δ := [some (fD w h c), some (fD w h d), some (nD m), some (nD y), some (nD x)]) (ah := ah) (c := d) w6 hx hy rfl rfl rfl) rfl)
      rw [sg_o] at t1 t2
      exact tand_ev t1 t2
    have lc := len_lst cm
    rw [List.length_map] at lc
    exact asg_ev (addn (n := m) rfl lc))
  have len_f := len_tup (m := eVar 0) (δ := [some (fD w h c), some (fD w h d), some (nD 0), none, none]) (ah := ah) rfl
  rw [List.length_map, List.length_range] at len_f
  have os := odd_sum (w := w) (f := fun p => c p.1 p.2 && d p.1 p.2) (List.range h) 0
  have os : decide (((List.range h).foldl (fun m y => m + ((List.range w).filter fun x => c x y && d x y).length) 0) % 2 = 1) = both w h c d := os.trans (by
    show (false ^^ both w h c d) = _
    rw [Bool.false_xor])
  generalize ((List.range h).foldl (fun m y => m + ((List.range w).filter fun x => c x y && d x y).length) 0) = M at e os
  have hs : s__law_odd [some (fD w h c), some (fD w h d), none, none, none] ah = some (.rt (.bl (both w h c d)), ah) := by
    unfold s__law_odd
    refine (seq_nx (asg_ev (cn 0))).trans ((seq_nx ((for_ev (rng1 len_f (by omega))).trans e)).trans (ret_ev ?_))
    have md := mod_ev (a := eVar 2) (b := eC (.int 2)) (δ := [some (fD w h c), some (fD w h d), some (nD M), x, none]) (ah := ah) (i := (M : Nat)) (j := 2) rfl rfl (by decide)
    refine (bin_ev md (y := .int 1) rfl (z := .bl (decide (((M : Nat) : Int) % 2 = 1))) rfl).trans ?_
    rw [← os]
    have : decide (((M : Nat) : Int) % 2 = 1) = decide (M % 2 = 1) := decide_eq_decide.mpr (by omega)
    rw [this]
  exact (fn_rt rfl hs).trans (by rw [trim_self])
end K19

set_option linter.all false
set_option maxRecDepth 100000
namespace MM
open PySem L2
theorem sl_takeP {m a : ME} {δ : DL} {ah ah1 ah2 : AH} {l : List D} {n i : Nat} (h : m δ ah = some (.ptr n, ah1)) (ha : a δ ah1 = some (.int (i : Nat), ah2)) (hl : ah2[n]? = some (.lst l)) : eSl m oNone (oSome a) δ ah = some (.lst (l.take i), ah2) := by
  have e1 : eSlice m oNone (oSome a) δ ah = none := by simp [eSlice, oNone, oSome, h, ha]
  have q : asR ah2 (.ptr n) = some l := by simp [asR, hl]
  have e2 : fSlice m oNone (oSome a) δ ah = some (l.take i, ah2) := by
    simp only [fSlice, oNone, oSome, h, ha, Option.bind_some, q, Option.map_some]
    unfold cutL
    rw [HT.sIx_none, HT.sIx_nat, List.drop_zero, Nat.sub_zero]
    congr 2
    rw [← List.take_take, List.take_length]
  unfold eSl orE
  rw [e1]
  exact frz_ev e2
theorem sl_dropP {m a : ME} {δ : DL} {ah ah1 ah2 : AH} {l : List D} {n i : Nat} (h : m δ ah = some (.ptr n, ah1)) (ha : a δ ah1 = some (.int (i : Nat), ah2)) (hl : ah2[n]? = some (.lst l)) : eSl m (oSome a) oNone δ ah = some (.lst (l.drop i), ah2) := by
  have e1 : eSlice m (oSome a) oNone δ ah = none := by simp [eSlice, oNone, oSome, h, ha]
  have q : asR ah2 (.ptr n) = some l := by simp [asR, hl]
  have e2 : fSlice m (oSome a) oNone δ ah = some (l.drop i, ah2) := by
    simp only [fSlice, oNone, oSome, h, ha, Option.bind_some, q, Option.map_some]
    unfold cutL
    rw [HT.sIx_none, HT.sIx_nat]
    congr 2
    rcases Nat.le_total i l.length with hi | hi
    · rw [Nat.min_eq_left hi, List.take_of_length_le (by rw [List.length_drop]; omega)]
    · rw [Nat.min_eq_right hi, List.drop_of_length_le hi, List.drop_of_length_le (Nat.le_refl _)]
      simp
  unfold eSl orE
  rw [e1]
  exact frz_ev e2
end MM
namespace K19
open PySem L2 MM
open LM (mv1 moved Pl Xc Sp Cn parL)
section
variable {w h : Nat} {L M : List Nat}
theorem fs_pb (fs : List Nat) : pb 2 (.lst (fs.map (faceN w h))) = true := by
  show (fs.map (faceN w h)).all (pb 1) = true
  rw [List.all_map]
  exact List.all_eq_true.mpr fun n _ => fD_pb _ _ _
theorem ns_pb (L : List Nat) : pb 1 (nsD L) = true := by
  show (L.map nD).all (pb 0) = true
  rw [List.all_map]
  exact List.all_eq_true.mpr fun _ _ => rfl
theorem ne_same {ah : AH} {n : Nat} {d : D} (hn : n ≤ 60) (p : pb n d = true) : gNe ah d d = some (.bl false) := by
  unfold gNe
  rw [dEq_pb hn p p]
  simp
theorem eq_same {ah : AH} {n : Nat} {d : D} (hn : n ≤ 60) (p : pb n d = true) : gEq ah d d = some (.bl true) := by
  unfold gEq
  rw [dEq_pb hn p p]
  simp
theorem ev_need_like (ah : AH) : f_need_like [lotD w h L, lotD w h M] ah = some (.non, ah) := by
  have t : tOf (eBin gNe (eFld ["Lot"] "frame" (eVar 0)) (eFld ["Lot"] "frame" (eVar 1))) [some (lotD w h L), some (lotD w h M)] ah = some (false, ah) := tof_ev (bin_ev (lfrm (w := w) (h := h) (L := L) (var_ev rfl)) (lfrm (w := w) (h := h) (L := M) (var_ev rfl)) (ne_same (n := 1) (by decide) rfl))
  have hs : s_need_like [some (lotD w h L), some (lotD w h M)] ah = some (.nx [some (lotD w h L), some (lotD w h M)], ah) := by
    unfold s_need_like
    exact nil_t t
  exact (fn_nx rfl hs).trans (by rw [trim_self])
theorem like_ev {ah : AH} : sExpr (eCall f_need_like (aCons (eVar 0) (aCons (eVar 1) aNil))) [some (lotD w h L), some (lotD w h M)] ah = some (.nx [some (lotD w h L), some (lotD w h M)], ah) := exp_ev ((call_ev (cons_ev (var_ev rfl) (cons_ev (var_ev rfl) (nil_ev _ _)))).trans (ev_need_like ah))
theorem ev_joinedL (W : Wh w h) (p : Pl (w * h) L) (q : Pl (w * h) M) {ah : AH} (hb : Bd ah) : f_joined [lotD w h L, lotD w h M] ah = some (lotD w h (LM.plain (L ++ M)), ah) := by
  have wh : w * h ≤ 36 := Nat.mul_le_mul W.w6 W.h6
  have pl := p.len; have ql := q.len
  have ad := add_lst (lpln (w := w) (h := h) (L := L) (mo := eVar 0) (δ := [some (lotD w h L), some (lotD w h M)]) (ah := ah) (var_ev rfl)) (lpln (w := w) (h := h) (L := M) (mo := eVar 1) (var_ev rfl)) (by simp; omega)
  rw [← List.map_append] at ad
  have hs : s_joined [some (lotD w h L), some (lotD w h M)] ah = some (.rt (lotD w h (LM.plain (L ++ M))), ah) := by
    unfold s_joined
    exact (seq_nx like_ev).trans (ret_ev ((call_ev (cons_ev (lfrm (w := w) (h := h) (L := L) (var_ev rfl)) (cons_ev ((call_ev (cons_ev ad (nil_ev _ _))).trans (ev_plain (ns := L ++ M) (B := w * h) (fun n hn => (List.mem_append.mp hn).elim (p.lt n) (q.lt n)) (by omega) ah)) (nil_ev _ _)))).trans (ev_lot_from W _ hb)))
  exact (fn_rt rfl hs).trans (by rw [trim_self])
theorem ev_metL (W : Wh w h) (p : Pl (w * h) L) (q : Pl (w * h) M) {ah : AH} (hb : Bd ah) : f_met [lotD w h L, lotD w h M] ah = some (lotD w h (metRows w h L M), ah) := by
  have hs : s_met [some (lotD w h L), some (lotD w h M)] ah = some (.rt (lotD w h (metRows w h L M)), ah) := by
    unfold s_met
    exact (seq_nx like_ev).trans (ret_ev ((call_ev (cons_ev (lfrm (w := w) (h := h) (L := L) (var_ev rfl)) (cons_ev ((call_ev (cons_ev (lfrm (w := w) (h := h) (L := L) (var_ev rfl)) (cons_ev (lpln (w := w) (h := h) (L := L) (var_ev rfl)) (cons_ev (lpln (w := w) (h := h) (L := M) (var_ev rfl)) (nil_ev _ _))))).trans (ev_met W p q ah)) (nil_ev _ _)))).trans (ev_lot_from W _ hb)))
  exact (fn_rt rfl hs).trans (by rw [trim_self])
theorem nsD_inj (e : nsD L = nsD M) : L = M := by
  have := D.lst.inj e
  exact List.map_inj_right (fun a b (e : nD a = nD b) => by have := D.int.inj e; omega) |>.mp this
theorem ev_alikeL (ah : AH) : f_alike [lotD w h L, lotD w h M] ah = some (.bl (decide (L = M)), ah) := by
  have e : gEq ah (nsD L) (nsD M) = some (.bl (decide (L = M))) := by
    unfold gEq
    rw [dEq_pb (n := 1) (by decide) (ns_pb L) (ns_pb M)]
    show some (D.bl (decide (nsD L = nsD M))) = _
    rw [decide_eq_decide.mpr ⟨nsD_inj, fun e => by rw [e]⟩]
  have hs : s_alike [some (lotD w h L), some (lotD w h M)] ah = some (.rt (.bl (decide (L = M))), ah) := by
    unfold s_alike
    exact (seq_nx like_ev).trans (ret_ev (bin_ev (lpln (w := w) (h := h) (L := L) (var_ev rfl)) (lpln (w := w) (h := h) (L := M) (var_ev rfl)) e))
  exact (fn_rt rfl hs).trans (by rw [trim_self])
theorem ev_makers (W : Wh w h) (p : Pl (w * h) L) {ah : AH} (hb : Bd ah) : f_Lot_makers [lotD w h L] ah = some (.ptr ah.length, ah ++ [.lst ((mkr w h L).map (faceN w h))]) := by
  have wh : w * h ≤ 36 := Nat.mul_le_mul W.w6 W.h6
  have := p.len
  have al : (mkr w h L).length ≤ L.length := by
    have := LM.apart_len (ns := L) (s := (coreRows w h L, []))
    have this : (mkr w h L).length ≤ 0 + L.length := this
    omega
  have s1 : sAsg (tgN 1) (eCall f_apart_over (aCons (eCall f_core_rows (aCons (eFld ["Lot"] "frame" (eVar 0)) (aCons (eFld ["Lot"] "plain" (eVar 0)) aNil))) (aCons (eFld ["Lot"] "plain" (eVar 0)) aNil))) [some (lotD w h L), none, none] ah = some (.nx [some (lotD w h L), some (nsD (mkr w h L)), none], ah) := asg_ev ((call_ev (cons_ev ((call_ev (cons_ev (lfrm (var_ev rfl)) (cons_ev (lpln (var_ev rfl)) (nil_ev _ _)))).trans (ev_core_rows W p.lt ah)) (cons_ev (lpln (var_ev rfl)) (nil_ev _ _)))).trans (ev_apart (coreRows_pl p.lt) p.lt (by omega) (by omega) hb))
  have cm : fComp (iAny (eVar 1)) (tgN 2) tYesM (eCall f_face_from (aCons (eFld ["Lot"] "frame" (eVar 0)) (aCons (eVar 2) aNil))) [2] [some (lotD w h L), some (nsD (mkr w h L)), none] ah = some ((mkr w h L).map (faceN w h), ah) := (comp_ev (iAny_lst (l := (mkr w h L).map nD) (var_ev rfl)) (by rw [List.length_map]; omega)).trans (compGo_map fun n hn => ⟨[some (lotD w h L), some (nsD (mkr w h L)), some (nD n)], rfl, rfl, (call_ev (cons_ev (lfrm (w := w) (h := h) (L := L) (var_ev rfl)) (cons_ev (var_ev rfl) (nil_ev _ _)))).trans (ev_face_from W n ah)⟩)
  have hs : s_Lot_makers [some (lotD w h L), none, none] ah = some (.rt (.ptr ah.length), ah ++ [.lst ((mkr w h L).map (faceN w h))]) := by
    unfold s_Lot_makers
    exact (seq_nx s1).trans (ret_ev (own_ev cm))
  exact (fn_rt rfl hs).trans (congrArg some (trim_ptr (Nat.le_refl _)))
/-- a lot made of faces by their numbers -/
theorem mk_of (W : Wh w h) {fs : List Nat} (hf : ∀ n ∈ fs, n < 2 ^ (w * h)) (hl : fs.length ≤ 60) {a : D} {ah : AH} {δ : DL} {ma : MA} (hb : Bd ah) (la : LA ah a (fs.map (faceN w h))) (ha : ma δ ah = some ([bxD w h, a], ah)) : eMkF "Lot" f_Lot___init__ ma δ ah = some (lotD w h (lotRows w h fs), ah) := by
  have e : (fs.map (cellN w h)).map (fD w h) = fs.map (faceN w h) := by rw [List.map_map]; rfl
  have := mkF_lot W (cs := fs.map (cellN w h)) (by rw [List.length_map]; exact hl) hb (by rw [e]; exact la) ha
  rwa [bits_cells hf] at this
def mkS (w h : Nat) (L : List Nat) (x1 x2 x3 : Option D) : DL := [some (lotD w h L), x1, x2, x3]
theorem mm {m : Str} {mf : MF} {d : D} {mo : ME} {δ : DL} {ah : AH} {K : List Nat} (v : mo δ ah = some (lotD w h K, ah)) (a : (m == "frame") = false) (b : (m == "plain") = false) (e : mf [lotD w h K] ah = some (d, ah)) : eMeth [("Lot", mf)] m mo aNil δ ah = some (d, ah) := (lmeth v a b (nil_ev _ _)).trans e
theorem mdoub {mo : ME} {δ : DL} {ah : AH} {K : List Nat} (v : mo δ ah = some (lotD w h K, ah)) : eMeth [("Lot", f_Lot_doublings)] "doublings" mo aNil δ ah = some (nD K.length, ah) := mm v (by decide +kernel) (by decide +kernel) (ev_Ldoub ah)
theorem mrows (W : Wh w h) {mo : ME} {δ : DL} {ah : AH} {K : List Nat} (p : Pl (w * h) K) (v : mo δ ah = some (lotD w h K, ah)) : eMeth [("Lot", f_Lot_rows)] "rows" mo aNil δ ah = some (.lst (K.map (faceN w h)), ah) := mm v (by decide +kernel) (by decide +kernel) (ev_Lrows W p ah)
theorem mbox {mo : ME} {δ : DL} {ah : AH} {K : List Nat} (v : mo δ ah = some (lotD w h K, ah)) : eMeth [("Lot", f_Lot_box)] "box" mo aNil δ ah = some (bxD w h, ah) := mm v (by decide +kernel) (by decide +kernel) (ev_Lbox ah)
theorem mcore (W : Wh w h) {mo : ME} {δ : DL} {ah : AH} {K : List Nat} (p : Pl (w * h) K) (hb : Bd ah) (v : mo δ ah = some (lotD w h K, ah)) : eMeth [("Lot", f_Lot_core)] "core" mo aNil δ ah = some (lotD w h (coreRows w h K), ah) := mm v (by decide +kernel) (by decide +kernel) (ev_Lcore W p hb)
theorem mstill (W : Wh w h) {mo : ME} {δ : DL} {ah : AH} {K : List Nat} (p : Pl (w * h) K) (hb : Bd ah) (v : mo δ ah = some (lotD w h K, ah)) : eMeth [("Lot", f_Lot_still)] "still" mo aNil δ ah = some (lotD w h (metRows w h K (stillRows w h)), ah) := mm v (by decide +kernel) (by decide +kernel) (ev_Lstill W p hb)
theorem magainst (W : Wh w h) {mo : ME} {δ : DL} {ah : AH} {K : List Nat} (p : Pl (w * h) K) (hb : Bd ah) (v : mo δ ah = some (lotD w h K, ah)) : eMeth [("Lot", f_Lot_against)] "against" mo aNil δ ah = some (lotD w h (agRows w h K), ah) := mm v (by decide +kernel) (by decide +kernel) (ev_Lagainst W p hb)
theorem mlayers (W : Wh w h) {mo : ME} {δ : DL} {ah : AH} {K : List Nat} (p : Pl (w * h) K) (hb : Bd ah) (v : mo δ ah = some (lotD w h K, ah)) : eMeth [("Lot", f_Lot_layers)] "layers" mo aNil δ ah = some (.lst ((lays w h 5 K).map (lotD w h)), ah) := mm v (by decide +kernel) (by decide +kernel) (ev_Llayers W p hb)
theorem facesN_bds (n : Nat) (fs : List Nat) : D.bds n (fs.map (faceN w h)) = true := bds_map (fun c => fD_bd n w h _) fs
end
end K19

set_option linter.all false
set_option maxRecDepth 100000
namespace K19
open PySem L2 MM
open LM (mv1 moved Pl Xc Sp Cn parL)
section
variable {w h : Nat} {L : List Nat}
theorem mkr_le (g : Gd w h L) : (mkr w h L).length ≤ L.length := by have := mkr_len g; omega
theorem mkr_one (W : Wh w h) (g : Gd w h L) {ah : AH} (hb : Bd ah) {x1 x3 : Option D} {n : Nat} (hn : ah[n]? = some (.lst ((mkr w h L).map (faceN w h)))) {k : Nat} (hk : k < (mkr w h L).length) :
    tOf (eBin gGe (eMeth [("Lot", f_Lot_doublings)] "doublings" (eMkF "Lot" f_Lot___init__ (aCons (eMeth [("Lot", f_Lot_box)] "box" (eVar 0) aNil) (aCons (eBin gAdd (eSl (eVar 2) oNone (oSome (eVar 3))) (eSl (eVar 2) (oSome (eBin gAdd (eVar 3) (eC (.int 1)))) oNone)) aNil))) aNil) (eMeth [("Lot", f_Lot_doublings)] "doublings" (eVar 0) aNil)) (mkS w h L x1 (some (.ptr n)) (some (nD k))) ah = some (false, ah) := by
  have wh : w * h ≤ 36 := Nat.mul_le_mul W.w6 W.h6
  have ll := g.cn.pl.len
  have ml := mkr_le g
  have F1 : ((mkr w h L).take k ++ (mkr w h L).drop (k + 1)).length < (mkr w h L).length := by simp; omega
  have F2 : ∀ f ∈ (mkr w h L).take k ++ (mkr w h L).drop (k + 1), f ∈ L := fun f hf => mkr_in f ((List.mem_append.mp hf).elim List.mem_of_mem_take List.mem_of_mem_drop)
  have less := mkr_less g F2 F1
  have a1 := sl_takeP (m := eVar 2) (a := eVar 3) (δ := mkS w h L x1 (some (.ptr n)) (some (nD k))) (ah := ah) (i := k) rfl rfl hn
  have a2 := sl_dropP (m := eVar 2) (a := eBin gAdd (eVar 3) (eC (.int 1))) (δ := mkS w h L x1 (some (.ptr n)) (some (nD k))) (ah := ah) (i := k + 1) rfl (addn (n := k) (k := 1) rfl (cn 1)) hn
  have ad := add_lst a1 a2 (by simp; omega)
  rw [← List.map_take, ← List.map_drop, ← List.map_append] at ad
  have mk := mk_of W (fs := (mkr w h L).take k ++ (mkr w h L).drop (k + 1)) (fun f hf => g.lt f (F2 f hf)) (by omega) hb (.inl rfl) (cons_ev (mbox (w := w) (h := h) (K := L) (mo := eVar 0) rfl) (cons_ev ad (nil_ev _ _)))
  have d1 := mdoub mk
  refine tof_ev ((bin_ev d1 (mdoub (w := w) (h := h) (K := L) (mo := eVar 0) rfl) (z := .bl (decide (((L.length : Nat) : Int) ≤ (((lotRows w h ((mkr w h L).take k ++ (mkr w h L).drop (k + 1))).length : Nat) : Int)))) rfl).trans ?_)
  rw [decide_eq_false (by omega)]
theorem mkr_turn (W : Wh w h) (g : Gd w h L) {ah : AH} (hb : Bd ah) {x1 x2 x3 : Option D} : ∃ y2 y3 H, (sSeq (sAsg (tgN 2) (eMeth [("Lot", f_Lot_makers)] "makers" (eVar 0) aNil)) (sSeq (sIf (tOrM (tNotM (tOf (eIsB "list" (eVar 2)))) (tOf (eBin gNe (e1 gLen (eVar 2)) (eBin gSub (eMeth [("Lot", f_Lot_doublings)] "doublings" (eVar 0) aNil) (eMeth [("Lot", f_Lot_doublings)] "doublings" (eMeth [("Lot", f_Lot_core)] "core" (eVar 0) aNil) aNil))))) (sRet (eC (.bl false))) sNil) (sSeq (sIf (tOf (eBin gNe (eMeth [("Lot", f_Lot_rows)] "rows" (eMkF "Lot" f_Lot___init__ (aCons (eMeth [("Lot", f_Lot_box)] "box" (eVar 0) aNil) (aCons (eVar 2) aNil))) aNil) (eMeth [("Lot", f_Lot_rows)] "rows" (eVar 0) aNil))) (sRet (eC (.bl false))) sNil) (sSeq (sFor (iRng1M (e1 gLen (eVar 2))) (tgN 3) (sIf (tOf (eBin gGe (eMeth [("Lot", f_Lot_doublings)] "doublings" (eMkF "Lot" f_Lot___init__ (aCons (eMeth [("Lot", f_Lot_box)] "box" (eVar 0) aNil) (aCons (eBin gAdd (eSl (eVar 2) oNone (oSome (eVar 3))) (eSl (eVar 2) (oSome (eBin gAdd (eVar 3) (eC (.int 1)))) oNone)) aNil))) aNil) (eMeth [("Lot", f_Lot_doublings)] "doublings" (eVar 0) aNil))) (sRet (eC (.bl false))) sNil)) (sSeq (sExpr (eMut gReverse (eVar 2) aNil)) (sExpr (eMut gAppend (eVar 2) (aCons (eC .non) aNil)))))))) (mkS w h L x1 x2 x3) ah = some (.nx (mkS w h L x1 y2 y3), ah ++ H) ∧ Bd (ah ++ H) := by
  have wh : w * h ≤ 36 := Nat.mul_le_mul W.w6 W.h6
  have ll := g.cn.pl.len
  have ml := mkr_len g
  have s1 : sAsg (tgN 2) (eMeth [("Lot", f_Lot_makers)] "makers" (eVar 0) aNil) (mkS w h L x1 x2 x3) ah = some (.nx (mkS w h L x1 (some (.ptr ah.length)) x3), ah ++ [.lst ((mkr w h L).map (faceN w h))]) := asg_ev ((lmeth (w := w) (h := h) (L := L) (mo := eVar 0) rfl (by decide +kernel) (by decide +kernel) (nil_ev _ _)).trans (ev_makers W g.cn.pl hb))
  have hb1 : Bd (ah ++ [.lst ((mkr w h L).map (faceN w h))]) := hb.push (facesN_bds _ _)
  have at1 : (ah ++ [AO.lst ((mkr w h L).map (faceN w h))])[ah.length]? = some (.lst ((mkr w h L).map (faceN w h))) := by simp
  have la1 : LA (ah ++ [AO.lst ((mkr w h L).map (faceN w h))]) (.ptr ah.length) ((mkr w h L).map (faceN w h)) := .inr ⟨_, rfl, at1⟩
  have t2 : tOrM (tNotM (tOf (eIsB "list" (eVar 2)))) (tOf (eBin gNe (e1 gLen (eVar 2)) (eBin gSub (eMeth [("Lot", f_Lot_doublings)] "doublings" (eVar 0) aNil) (eMeth [("Lot", f_Lot_doublings)] "doublings" (eMeth [("Lot", f_Lot_core)] "core" (eVar 0) aNil) aNil)))) (mkS w h L x1 (some (.ptr ah.length)) x3) (ah ++ [.lst ((mkr w h L).map (faceN w h))]) = some (false, ah ++ [.lst ((mkr w h L).map (faceN w h))]) := by
    refine (tor_f (tnot_ev (tof_ev (isL_LA rfl la1)))).trans ?_
    have ln := len_LA (δ := mkS w h L x1 (some (.ptr ah.length)) x3) (i := 2) rfl la1
    rw [List.length_map] at ln
    have sb := subn (mdoub (w := w) (h := h) (K := L) (mo := eVar 0) (δ := mkS w h L x1 (some (.ptr ah.length)) x3) (ah := ah ++ [.lst ((mkr w h L).map (faceN w h))]) rfl) (mdoub (mcore W g.cn.pl hb1 (mo := eVar 0) rfl)) (by omega)
    refine (nen ln sb).trans ?_
    rw [decide_eq_true (by omega)]
    rfl
  have t3 : tOf (eBin gNe (eMeth [("Lot", f_Lot_rows)] "rows" (eMkF "Lot" f_Lot___init__ (aCons (eMeth [("Lot", f_Lot_box)] "box" (eVar 0) aNil) (aCons (eVar 2) aNil))) aNil) (eMeth [("Lot", f_Lot_rows)] "rows" (eVar 0) aNil)) (mkS w h L x1 (some (.ptr ah.length)) x3) (ah ++ [.lst ((mkr w h L).map (faceN w h))]) = some (false, ah ++ [.lst ((mkr w h L).map (faceN w h))]) := by
    have mk := mk_of W (fs := mkr w h L) (fun f hf => g.lt f (mkr_in f hf)) (by omega) hb1 la1 (cons_ev (mbox (w := w) (h := h) (K := L) (mo := eVar 0) (δ := mkS w h L x1 (some (.ptr ah.length)) x3) rfl) (cons_ev (a := eVar 2) rfl (nil_ev _ _)))
    rw [mkr_lot g] at mk
    exact tof_ev (bin_ev (mrows W g.cn.pl mk) (mrows W g.cn.pl (mo := eVar 0) rfl) (ne_same (n := 2) (by decide) (fs_pb _)))
  obtain ⟨δ4, e4, y3, rfl⟩ := for_fold (g := tgN 3) (b := sIf (tOf (eBin gGe (eMeth [("Lot", f_Lot_doublings)] "doublings" (eMkF "Lot" f_Lot___init__ (aCons (eMeth [("Lot", f_Lot_box)] "box" (eVar 0) aNil) (aCons (eBin gAdd (eSl (eVar 2) oNone (oSome (eVar 3))) (eSl (eVar 2) (oSome (eBin gAdd (eVar 3) (eC (.int 1)))) oNone)) aNil))) aNil) (eMeth [("Lot", f_Lot_doublings)] "doublings" (eVar 0) aNil))) (sRet (eC (.bl false))) sNil) (i := nD) (f := fun (u : Unit) _ => u) (J := fun _ δ => ∃ y3, δ = mkS w h L x1 (some (.ptr ah.length)) y3) (ah := ah ++ [.lst ((mkr w h L).map (faceN w h))]) (l := List.range (mkr w h L).length) (s := ()) (δ := mkS w h L x1 (some (.ptr ah.length)) x3) ⟨_, rfl⟩ (by
    rintro k hk _ δ ⟨y3, rfl⟩
    exact ⟨_, mkS w h L x1 (some (.ptr ah.length)) (some (nD k)), rfl, nil_t (mkr_one (x3 := none) W g hb1 at1 (List.mem_range.mp hk)), _, rfl⟩)
  have ln := len_LA (δ := mkS w h L x1 (some (.ptr ah.length)) x3) (i := 2) rfl la1
  rw [List.length_map] at ln
  have s5 := exp_ev (mut_ev (g := gReverse) (mo := eVar 2) (δ := mkS w h L x1 (some (.ptr ah.length)) y3) (ah := ah ++ [.lst ((mkr w h L).map (faceN w h))]) (n := ah.length) (d := .non) (l' := ((mkr w h L).map (faceN w h)).reverse) rfl at1 (nil_ev _ _) at1 rfl)
  rw [set_end] at s5
  have s6 := exp_ev (app_ev (k := 2) (e := eC .non) (δ := mkS w h L x1 (some (.ptr ah.length)) y3) (ah := ah) (acc := ((mkr w h L).map (faceN w h)).reverse) (d := .non) rfl rfl (by rw [List.length_reverse, List.length_map]; omega))
  refine ⟨_, _, _, (seq_nx s1).trans ((seq_nx (nil_t t2)).trans ((seq_nx (nil_t t3)).trans ((seq_nx ((for_ev (rng1 ln (by omega))).trans e4)).trans ((seq_nx s5).trans s6)))), hb.push ?_⟩
  show D.bds _ _ = true
  rw [← List.map_reverse]
  have : ∀ {n : Nat} (l : List D), D.bds n l = true → D.bds n (l ++ [.non]) = true := fun {n} l => by
    induction l with
    | nil => intro _; rfl
    | cons a l ih =>
      intro q
      have q : (D.bd n a && D.bds n l) = true := q
      show (D.bd n a && D.bds n (l ++ [.non])) = true
      rw [Bool.and_eq_true] at q ⊢
      exact ⟨q.1, ih q.2⟩
  exact this _ (facesN_bds _ _)
theorem ev_makers_right (W : Wh w h) (g : Gd w h L) {ah : AH} (hb : Bd ah) : f__law_makers_right [lotD w h L] ah = some (.bl true, ah) := by
  obtain ⟨δ', H', e, ⟨G, rfl⟩, -, x1, x2, x3, rfl⟩ := for_foldH (g := tgN 1) (i := nD) (f := fun (u : Unit) _ => u) (J := fun _ δ H => (∃ G, H = ah ++ G) ∧ Bd H ∧ ∃ x1 x2 x3, δ = mkS w h L x1 x2 x3) (l := List.range 2) (s := ()) (δ := mkS w h L none none none) (ah := ah) ⟨⟨[], (List.append_nil _).symm⟩, hb, _, _, _, rfl⟩ (by
    rintro x hx _ δ H ⟨⟨G, rfl⟩, hB, x1, x2, x3, rfl⟩
    obtain ⟨y2, y3, G2, e, b2⟩ := mkr_turn W g hB (x1 := some (nD x)) (x2 := x2) (x3 := x3)
    exact ⟨_, _, _, rfl, e, ⟨G ++ G2, List.append_assoc ..⟩, b2, _, _, _, rfl⟩)
  have hs : s__law_makers_right [some (lotD w h L), none, none, none] ah = some (.rt (.bl true), ah ++ G) := by
    unfold s__law_makers_right
    exact (seq_nx ((for_ev (rng1 (n := 2) rfl (by decide))).trans e)).trans (ret_ev rfl)
  exact (fn_rt rfl hs).trans (congrArg some (trim_app rfl hb))
/-! ### what is alike -/
theorem lays_pb (K : List (List Nat)) : pb 3 (.lst (K.map fun M => D.lst (M.map (faceN w h)))) = true := by
  show (K.map fun M => D.lst (M.map (faceN w h))).all (pb 2) = true
  rw [List.all_map]
  exact List.all_eq_true.mpr fun M _ => fs_pb M
theorem ev_alike_right (W : Wh w h) (p : Pl (w * h) L) {ah : AH} (hb : Bd ah) : f__law_alike_right [lotD w h L, lotD w h L] ah = some (.bl true, ah) := by
  have cp := coreRows_pl p.lt
  have sp := metRows_pl p (still_pl w h)
  have ap := agRows_pl p
  have t1 : tOrM (tOf (eBin gNe (eMeth [("Lot", f_Lot_rows)] "rows" (eVar 0) aNil) (eMeth [("Lot", f_Lot_rows)] "rows" (eVar 1) aNil))) (tOrM (tOf (eBin gNe (eMeth [("Lot", f_Lot_doublings)] "doublings" (eVar 0) aNil) (eMeth [("Lot", f_Lot_doublings)] "doublings" (eVar 1) aNil))) (tOf (eBin gNe (eMeth [("Lot", f_Lot_box)] "box" (eVar 0) aNil) (eMeth [("Lot", f_Lot_box)] "box" (eVar 1) aNil)))) [some (lotD w h L), some (lotD w h L), none, none] ah = some (false, ah) := by
    refine (tor_f (tof_ev (bin_ev (mrows W p (mo := eVar 0) rfl) (mrows W p (mo := eVar 1) rfl) (ne_same (n := 2) (by decide) (fs_pb _))))).trans ?_
    refine (tor_f ((nen (mdoub (w := w) (h := h) (K := L) (mo := eVar 0) rfl) (mdoub (w := w) (h := h) (K := L) (mo := eVar 1) rfl)).trans (by rw [decide_eq_true rfl]; rfl))).trans ?_
    exact tof_ev (bin_ev (mbox (w := w) (h := h) (K := L) (mo := eVar 0) rfl) (mbox (w := w) (h := h) (K := L) (mo := eVar 1) rfl) (ne_same (n := 1) (by decide) rfl))
  have t2 : tOrM (tOf (eBin gNe (eMeth [("Lot", f_Lot_rows)] "rows" (eMeth [("Lot", f_Lot_core)] "core" (eVar 0) aNil) aNil) (eMeth [("Lot", f_Lot_rows)] "rows" (eMeth [("Lot", f_Lot_core)] "core" (eVar 1) aNil) aNil))) (tOf (eBin gNe (eMeth [("Lot", f_Lot_rows)] "rows" (eMeth [("Lot", f_Lot_still)] "still" (eVar 0) aNil) aNil) (eMeth [("Lot", f_Lot_rows)] "rows" (eMeth [("Lot", f_Lot_still)] "still" (eVar 1) aNil) aNil))) [some (lotD w h L), some (lotD w h L), none, none] ah = some (false, ah) := by
    refine (tor_f (tof_ev (bin_ev (mrows W cp (mcore W p hb (mo := eVar 0) rfl)) (mrows W cp (mcore W p hb (mo := eVar 1) rfl)) (ne_same (n := 2) (by decide) (fs_pb _))))).trans ?_
    exact tof_ev (bin_ev (mrows W sp (mstill W p hb (mo := eVar 0) rfl)) (mrows W sp (mstill W p hb (mo := eVar 1) rfl)) (ne_same (n := 2) (by decide) (fs_pb _)))
  have ll := lays_len (w := w) (h := h) 5 L
  have ly : ∀ {i : Nat} {δ : DL} {x0 x1 : D} {x2 x3 : Option D}, δ = [some x0, some x1, x2, x3] → δ[i]? = some (some (lotD w h L)) → eFrz (fComp (iAny (eMeth [("Lot", f_Lot_layers)] "layers" (eVar i) aNil)) (tgN 3) tYesM (eMeth [("Lot", f_Lot_rows)] "rows" (eVar 3) aNil) [3]) δ ah = some (.lst ((lays w h 5 L).map fun M => D.lst (M.map (faceN w h))), ah) := fun {i δ x0 x1 x2 x3} e v => by
    refine frz_ev ((comp_ev (iAny_lst (mlayers W p hb (var_ev v))) (by rw [List.length_map]; omega)).trans (compGo_map fun M hM => ?_))
    subst e
    exact ⟨[some x0, some x1, x2, some (lotD w h M)], rfl, rfl, mrows W (lays_pl 5 L p M hM) rfl⟩
  have s3 : sAsg (tgN 2) (eFrz (fComp (iAny (eMeth [("Lot", f_Lot_layers)] "layers" (eVar 0) aNil)) (tgN 3) tYesM (eMeth [("Lot", f_Lot_rows)] "rows" (eVar 3) aNil) [3])) [some (lotD w h L), some (lotD w h L), none, none] ah = some (.nx [some (lotD w h L), some (lotD w h L), some (.lst ((lays w h 5 L).map fun M => D.lst (M.map (faceN w h)))), none], ah) := asg_ev (ly rfl rfl)
  have hs : s__law_alike_right [some (lotD w h L), some (lotD w h L), none, none] ah = some (.rt (.bl true), ah) := by
    unfold s__law_alike_right
    refine (seq_nx (nil_t t1)).trans ((seq_nx (nil_t t2)).trans ((seq_nx s3).trans (ret_ev ((and_t (bin_ev (mrows W ap (magainst W p hb (mo := eVar 0) rfl)) (mrows W ap (magainst W p hb (mo := eVar 1) rfl)) (eq_same (n := 2) (by decide) (fs_pb _)))).trans ?_))))
    exact bin_ev (a := eVar 2) rfl (ly rfl rfl) (eq_same (n := 3) (by decide) (lays_pb _))
  exact (fn_rt rfl hs).trans (by rw [trim_self])
end
end K19

set_option linter.all false
set_option maxRecDepth 100000
namespace MM
open PySem L2
theorem fls_py : ∀ n : Nat, ∃ ps, D.pys (List.replicate n (.bl false)) = some ps ∧ PyData.canLayAll0 ps = true ∧ PyData.depthAll ps ≤ 1 ∧ (ps.any fun z => PyData.eqv z (.bool true)) = false
  | 0 => ⟨[], by rw [List.replicate_zero, D.pys], by rw [PyData.canLayAll0], by simp [PyData.depthAll], rfl⟩
  | n + 1 => by
    obtain ⟨ps, h1, h2, h3, h4⟩ := fls_py n
    refine ⟨.bool false :: ps, by simp [List.replicate_succ, D.pys, D.py, h1], by simp [PyData.canLayAll0, PyData.canLay0, h2], by simp [PyData.depthAll, PyData.depth]; omega, ?_⟩
    rw [List.any_cons, h4]
    rfl
theorem gIn_bl (n : Nat) (ah : AH) : gIn ah (.bl true) (.lst (List.replicate n (.bl false))) = some (.bl false) := by
  obtain ⟨ps, h1, h2, h3, h4⟩ := fls_py n
  have sh : (SeqAt.shaped (.bool true) && SeqAt.shaped (.list ps)) = true := by
    simp only [SeqAt.shaped, Bool.and_eq_true, decide_eq_true_eq]
    exact ⟨⟨rfl, by simp [PyData.depth]⟩, by simpa [PyData.canLay0] using h2, by simp [PyData.depth]; omega⟩
  have core : dIn ah (.bl true) (.lst (List.replicate n (.bl false))) = some false := by
    show ((topPy ah (.bl true)).bind fun p => (asL ah (.lst (List.replicate n (.bl false)))).bind fun l => (D.pys l).bind fun ps => if (SeqAt.shaped p && SeqAt.shaped (.list ps)) = true then some (ps.any fun z => PyData.eqv z p) else none) = _
    rw [show topPy ah (.bl true) = some (.bool true) from rfl, Option.bind_some]
    show ((D.pys (List.replicate n (.bl false))).bind _) = _
    rw [h1, Option.bind_some, if_pos sh, h4]
  rw [gIn, core]
  rfl
theorem ne_bl {ah : AH} (b : Bool) : gNe ah (.bl b) (.bl b) = some (.bl false) := by cases b <;> rfl
end MM
namespace K19
open PySem L2 MM
open LM (mv1 moved Pl Xc Sp Cn parL)
section
variable {w h b : Nat} {L : List Nat}
theorem all2_list {α β : Type} {F : β → D} {Q : β → Prop} : ∀ {l : List α} {ds : List D}, All2 (fun _ d => ∃ x, Q x ∧ d = F x) l ds → ∃ xs : List β, ds = xs.map F ∧ xs.length = l.length ∧ ∀ x ∈ xs, Q x
  | _, _, .nil => ⟨[], rfl, rfl, fun _ h => nomatch h⟩
  | _, _, .cons ⟨x, q, e⟩ r => by
    obtain ⟨xs, e2, e3, e4⟩ := all2_list r
    refine ⟨x :: xs, by rw [e, e2]; rfl, by simp [e3], fun y hy => ?_⟩
    rcases List.mem_cons.mp hy with rfl | hy
    · exact q
    · exact e4 y hy
def frS (b w h : Nat) (L : List Nat) (x4 x5 x6 x7 x8 x9 : Option D) : DL := [some (.ptr b), some (bxD w h), some (lotD w h L), some (lotD w h L), x4, x5, x6, x7, x8, x9]
theorem mmemb (W : Wh w h) (p : Pl (w * h) L) {n : Nat} (hn : n < 2 ^ L.length) {mo a : ME} {δ : DL} {ah ah1 : AH} (v : mo δ ah = some (lotD w h L, ah)) (ha : a δ ah = some (nD n, ah1)) : eMeth [("Lot", f_Lot_member)] "member" mo (aCons a aNil) δ ah = some (faceN w h (LM.memb L n), ah1) := (lmeth v (by decide +kernel) (by decide +kernel) (cons_ev ha (nil_ev _ _))).trans (ev_Lmember W p (Nat.div_eq_of_lt hn) ah1)
theorem mhas (W : Wh w h) (p : Pl (w * h) L) {mo a : ME} {δ : DL} {ah : AH} {c : Cell} (v : mo δ ah = some (lotD w h L, ah)) (ha : a δ ah = some (fD w h c, ah)) : eMeth [("Lot", f_Lot_has)] "has" mo (aCons a aNil) δ ah = some (.bl (decide (LM.sift L (bitsN w h c) = 0)), ah) := (lmeth v (by decide +kernel) (by decide +kernel) (cons_ev ha (nil_ev _ _))).trans (ev_Lhas W p c ah)
theorem mnumb (W : Wh w h) (p : Pl (w * h) L) {mo a : ME} {δ : DL} {ah : AH} {c : Cell} (v : mo δ ah = some (lotD w h L, ah)) (ha : a δ ah = some (fD w h c, ah)) : eMeth [("Lot", f_Lot_number_of)] "number_of" mo (aCons a aNil) δ ah = some (if LM.sift L (bitsN w h c) = 0 then nD (LM.numb L (bitsN w h c)) else .non, ah) := (lmeth v (by decide +kernel) (by decide +kernel) (cons_ev ha (nil_ev _ _))).trans (ev_Lnumber W p c ah)
theorem mcomb (W : Wh w h) (p : Pl (w * h) L) {mo a : ME} {δ : DL} {ah : AH} {c : Cell} (v : mo δ ah = some (lotD w h L, ah)) (ha : a δ ah = some (fD w h c, ah)) : eMeth [("Lot", f_Lot_comb)] "comb" mo (aCons a aNil) δ ah = some (if LM.sift L (bitsN w h c) = 0 then .non else faceN w h (LM.combAt L (LM.sift L (bitsN w h c)).log2), ah) := (lmeth v (by decide +kernel) (by decide +kernel) (cons_ev ha (nil_ev _ _))).trans (ev_Lcomb W p c ah)
theorem face_turn (W : Wh w h) (g : Gd w h L) {ms : List Nat} (hm : ∀ n ∈ ms, Sp L n) (ml : ms.length ≤ 100) (c : Cell) {ah : AH} {x4 x7 x8 x9 : Option D} : ∃ y7, (sSeq (sIf (tOrM (tOf (eBin gNe (eMeth [("Lot", f_Lot_has)] "has" (eVar 2) (aCons (eVar 6) aNil)) (eMeth [("Lot", f_Lot_has)] "has" (eVar 3) (aCons (eVar 6) aNil)))) (tOf (eBin gNe (eMeth [("Lot", f_Lot_number_of)] "number_of" (eVar 2) (aCons (eVar 6) aNil)) (eMeth [("Lot", f_Lot_number_of)] "number_of" (eVar 3) (aCons (eVar 6) aNil))))) (sRet (eC (.bl false))) sNil) (sSeq (sAsg (tgN 7) (eMeth [("Lot", f_Lot_comb)] "comb" (eVar 2) (aCons (eVar 6) aNil))) (sSeq (sIf (tOrM (tOf (eBin gNe (eMeth [("Lot", f_Lot_comb)] "comb" (eVar 2) (aCons (eVar 6) aNil)) (eVar 7))) (tOf (eBin gNe (eBin gIsN (eVar 7) (eC .non)) (eMeth [("Lot", f_Lot_has)] "has" (eVar 2) (aCons (eVar 6) aNil))))) (sRet (eC (.bl false))) sNil) (sIf (tOf (eBin gIsN (eVar 7) (eC .non))) (sIf (tOf (eBin gNe (eMeth [("Lot", f_Lot_member)] "member" (eVar 2) (aCons (eMeth [("Lot", f_Lot_number_of)] "number_of" (eVar 2) (aCons (eVar 6) aNil)) aNil)) (eVar 6))) (sRet (eC (.bl false))) sNil) (sIf (tOrM (tNotM (tOf (eCall f__law_odd (aCons (eVar 7) (aCons (eVar 6) aNil))))) (tOf (eBin gIn (eC (.bl true)) (eFrz (fComp (iAny (eBin gAdd (eMeth [("Lot", f_Lot_rows)] "rows" (eVar 2) aNil) (eVar 5))) (tgN 9) tYesM (eCall f__law_odd (aCons (eVar 7) (aCons (eVar 9) aNil))) [9]))))) (sRet (eC (.bl false))) sNil))))) (frS b w h L x4 (some (.lst (ms.map (faceN w h)))) (some (fD w h c)) x7 x8 x9) ah = some (.nx (frS b w h L x4 (some (.lst (ms.map (faceN w h)))) (some (fD w h c)) y7 x8 x9), ah) := by
  have wh : w * h ≤ 36 := Nat.mul_le_mul W.w6 W.h6
  have p := g.cn.pl
  have ll := p.len
  have t1 : tOrM (tOf (eBin gNe (eMeth [("Lot", f_Lot_has)] "has" (eVar 2) (aCons (eVar 6) aNil)) (eMeth [("Lot", f_Lot_has)] "has" (eVar 3) (aCons (eVar 6) aNil)))) (tOf (eBin gNe (eMeth [("Lot", f_Lot_number_of)] "number_of" (eVar 2) (aCons (eVar 6) aNil)) (eMeth [("Lot", f_Lot_number_of)] "number_of" (eVar 3) (aCons (eVar 6) aNil)))) (frS b w h L x4 (some (.lst (ms.map (faceN w h)))) (some (fD w h c)) x7 x8 x9) ah = some (false, ah) := by
    refine (tor_f (tof_ev (bin_ev (mhas W p (mo := eVar 2) (a := eVar 6) (c := c) rfl rfl) (mhas W p (mo := eVar 3) (a := eVar 6) (c := c) rfl rfl) (ne_bl _)))).trans ?_
    exact tof_ev (bin_ev (mnumb W p (mo := eVar 2) (a := eVar 6) (c := c) rfl rfl) (mnumb W p (mo := eVar 3) (a := eVar 6) (c := c) rfl rfl) (ne_same (n := 1) (by decide) (by split <;> rfl)))
  have s2 : sAsg (tgN 7) (eMeth [("Lot", f_Lot_comb)] "comb" (eVar 2) (aCons (eVar 6) aNil)) (frS b w h L x4 (some (.lst (ms.map (faceN w h)))) (some (fD w h c)) x7 x8 x9) ah = some (.nx (frS b w h L x4 (some (.lst (ms.map (faceN w h)))) (some (fD w h c)) (some (if LM.sift L (bitsN w h c) = 0 then .non else faceN w h (LM.combAt L (LM.sift L (bitsN w h c)).log2))) x8 x9), ah) := asg_ev (mcomb W p (mo := eVar 2) (a := eVar 6) (c := c) rfl rfl)
  have cpb : pb 1 (if LM.sift L (bitsN w h c) = 0 then .non else faceN w h (LM.combAt L (LM.sift L (bitsN w h c)).log2)) = true := by
    split
    · rfl
    · exact fD_pb _ _ _
  have isn : eBin gIsN (eVar 7) (eC .non) (frS b w h L x4 (some (.lst (ms.map (faceN w h)))) (some (fD w h c)) (some (if LM.sift L (bitsN w h c) = 0 then .non else faceN w h (LM.combAt L (LM.sift L (bitsN w h c)).log2))) x8 x9) ah = some (.bl (decide (LM.sift L (bitsN w h c) = 0)), ah) := by
    refine (bin_ev (x := if LM.sift L (bitsN w h c) = 0 then .non else faceN w h (LM.combAt L (LM.sift L (bitsN w h c)).log2)) (y := .non) rfl rfl (z := .bl (isN (if LM.sift L (bitsN w h c) = 0 then .non else faceN w h (LM.combAt L (LM.sift L (bitsN w h c)).log2)))) rfl).trans ?_
    split
    · rename_i h0
      rw [decide_eq_true h0]; rfl
    · rename_i h0
      rw [decide_eq_false h0]; rfl
  have t3 : tOrM (tOf (eBin gNe (eMeth [("Lot", f_Lot_comb)] "comb" (eVar 2) (aCons (eVar 6) aNil)) (eVar 7))) (tOf (eBin gNe (eBin gIsN (eVar 7) (eC .non)) (eMeth [("Lot", f_Lot_has)] "has" (eVar 2) (aCons (eVar 6) aNil)))) (frS b w h L x4 (some (.lst (ms.map (faceN w h)))) (some (fD w h c)) (some (if LM.sift L (bitsN w h c) = 0 then .non else faceN w h (LM.combAt L (LM.sift L (bitsN w h c)).log2))) x8 x9) ah = some (false, ah) := by
    refine (tor_f (tof_ev (bin_ev (mcomb W p (mo := eVar 2) (a := eVar 6) (c := c) rfl rfl) (b := eVar 7) rfl (ne_same (n := 1) (by decide) cpb)))).trans ?_
    exact tof_ev (bin_ev isn (mhas W p (mo := eVar 2) (a := eVar 6) (c := c) rfl rfl) (ne_bl _))
  have ti := tof_ev isn
  have nN := bitsN_lt w h c
  refine ⟨some (if LM.sift L (bitsN w h c) = 0 then .non else faceN w h (LM.combAt L (LM.sift L (bitsN w h c)).log2)), (seq_nx (nil_t t1)).trans ((seq_nx s2).trans ((seq_nx (nil_t t3)).trans ?_))⟩
  by_cases h0 : LM.sift L (bitsN w h c) = 0
  · rw [decide_eq_true h0] at ti
    refine (if_t ti).trans (nil_t (tof_ev ?_))
    have mn := mnumb W p (mo := eVar 2) (a := eVar 6) (c := c) (δ := frS b w h L x4 (some (.lst (ms.map (faceN w h)))) (some (fD w h c)) (some (if LM.sift L (bitsN w h c) = 0 then .non else faceN w h (LM.combAt L (LM.sift L (bitsN w h c)).log2))) x8 x9) (ah := ah) rfl rfl
    replace mn := mn.trans (congrArg (fun d => some (d, ah)) (if_pos h0))
    have mb := mmemb W p (mo := eVar 2) (LM.numb_lt (bitsN w h c) L) rfl mn
    rw [LM.memb_of p h0, face_bits] at mb
    exact bin_ev mb (b := eVar 6) rfl (ne_same (n := 1) (by decide) (fD_pb _ _ _))
  · rw [decide_eq_false h0] at ti
    obtain ⟨od, ev⟩ := comb_face g nN h0
    refine (if_f ti).trans (nil_t ?_)
    rw [if_neg h0]
    generalize LM.combAt L (LM.sift L (bitsN w h c)).log2 = K at od ev
    have o1 := ev_odd W (cellN w h K) c ah
    rw [both_face, od] at o1
    refine (tor_f (tnot_ev (b := true) (tof_ev ((call_ev (cons_ev (a := eVar 7) (d := faceN w h K) rfl (cons_ev (a := eVar 6) (d := fD w h c) rfl (nil_ev _ _)))).trans o1)))).trans ?_
    have ad := add_lst (mrows W p (mo := eVar 2) (δ := frS b w h L x4 (some (.lst (ms.map (faceN w h)))) (some (fD w h c)) (some (faceN w h K)) x8 x9) (ah := ah) rfl) (b := eVar 5) (m := ms.map (faceN w h)) rfl (by simp; omega)
    rw [← List.map_append] at ad
    have cm : eFrz (fComp (iAny (eBin gAdd (eMeth [("Lot", f_Lot_rows)] "rows" (eVar 2) aNil) (eVar 5))) (tgN 9) tYesM (eCall f__law_odd (aCons (eVar 7) (aCons (eVar 9) aNil))) [9]) (frS b w h L x4 (some (.lst (ms.map (faceN w h)))) (some (fD w h c)) (some (faceN w h K)) x8 x9) ah = some (.lst ((L ++ ms).map fun _ => D.bl false), ah) := by
      refine frz_ev ((comp_ev (iAny_lst ad) (by simp; omega)).trans (compGo_map fun n hn => ?_))
      have sp : Sp L n := (List.mem_append.mp hn).elim (p.row n) (hm n)
      have o2 := ev_odd W (cellN w h K) (cellN w h n) ah
      rw [both_par, ev n sp] at o2
      exact ⟨frS b w h L x4 (some (.lst (ms.map (faceN w h)))) (some (fD w h c)) (some (faceN w h K)) x8 (some (faceN w h n)), rfl, rfl, (call_ev (cons_ev (a := eVar 7) (d := faceN w h K) rfl (cons_ev (a := eVar 9) (d := faceN w h n) rfl (nil_ev _ _)))).trans o2⟩
    have rp : ((L ++ ms).map fun _ => D.bl false) = List.replicate (L ++ ms).length (.bl false) := by
      rw [List.map_const']
    rw [rp] at cm
    exact tof_ev (bin_ev (x := .bl true) rfl cm (gIn_bl _ _))
theorem ev_faces_right (W : Wh w h) (g : Gd w h L) {ah : AH} (hB : Bd ah) (hb : BagAt ah b) : ∃ ah', f__law_faces_right [.ptr b, bxD w h, lotD w h L, lotD w h L] ah = some (.bl true, ah') ∧ Bg b ah ah' := by
  have wh : w * h ≤ 36 := Nat.mul_le_mul W.w6 W.h6
  have p := g.cn.pl
  have ll := p.len
  have pw : 2 ^ L.length ≤ 2 ^ 60 := Nat.pow_le_pow_right (by decide) (by omega)
  have pw0 := Nat.two_pow_pos L.length
  have s1 : sAsg (tgN 4) (eBin gShl (eC (.int 1)) (eMeth [("Lot", f_Lot_doublings)] "doublings" (eVar 2) aNil)) (frS b w h L none none none none none none) ah = some (.nx (frS b w h L (some (nD (2 ^ L.length))) none none none none none), ah) := by
    have q := shln (cn 1) (mdoub (w := w) (h := h) (K := L) (mo := eVar 2) (δ := frS b w h L none none none none none none) (ah := ah) rfl) (by decide) (by omega)
    rw [Nat.one_mul] at q
    exact asg_ev q
  generalize eP : 2 ^ L.length = P at s1 pw pw0
  obtain ⟨ds, A2, e2, r2, a2⟩ := compGo_rel (g := tgN 8) (e := eMeth [("Lot", f_Lot_member)] "member" (eVar 2) (aCons (eCall f__law_take (aCons (eVar 0) (aCons (eVar 4) aNil))) aNil)) (δ := frS b w h L (some (nD P)) none none none none none) (i := nD) (P := fun _ d => ∃ n, Sp L n ∧ d = faceN w h n) (R := BgR b) BgR.rf BgR.tr (l := List.range 2) (ah := ah) fun y _ ah3 hr => by
    obtain ⟨r, A, t, l, gA⟩ := take_evW (δ := frS b w h L (some (nD P)) none none none (some (nD y)) none) (i := 0) (m := eVar 4) (hr hb).at' rfl (many := ((P : Nat) : Int)) rfl (by omega) (by exact_mod_cast pw)
    refine ⟨_, _, A, rfl, mmemb W p (mo := eVar 2) (n := r) (by rw [eP]; exact_mod_cast l) rfl t, fun _ => gA, _, LM.memb_sp p, rfl⟩
  obtain ⟨m2, rfl, l2, sp2⟩ := all2_list a2
  rw [List.length_range] at l2
  have g2 := r2 hb
  have two : eFrz (fLst (aCons (eMeth [("Lot", f_Lot_member)] "member" (eVar 2) (aCons (eC (.int 0)) aNil)) (aCons (eMeth [("Lot", f_Lot_member)] "member" (eVar 2) (aCons (eBin gSub (eVar 4) (eC (.int 1))) aNil)) aNil))) (frS b w h L (some (nD P)) none none none none none) A2 = some (.lst ([LM.memb L 0, LM.memb L (P - 1)].map (faceN w h)), A2) := frz_ev (lst_ev (cons_ev (mmemb W p (mo := eVar 2) (n := 0) (by omega) rfl (cn 0)) (cons_ev (mmemb W p (mo := eVar 2) (n := P - 1) (by omega) rfl (subn (n := P) (k := 1) rfl (cn 1) (by omega))) (nil_ev _ _))) (by simp))
  have c2 : eFrz (fComp (iRng1M (eC (.int 2))) (tgN 8) tYesM (eMeth [("Lot", f_Lot_member)] "member" (eVar 2) (aCons (eCall f__law_take (aCons (eVar 0) (aCons (eVar 4) aNil))) aNil)) [8]) (frS b w h L (some (nD P)) none none none none none) ah = some (.lst (m2.map (faceN w h)), A2) := frz_ev ((comp_ev (vs := [8]) (rng1 (n := 2) rfl (by decide)) (by simp)).trans e2)
  have ad := add_lst c2 two (by simp; omega)
  rw [← List.map_append] at ad
  have sm : ∀ n ∈ m2 ++ [LM.memb L 0, LM.memb L (P - 1)], Sp L n := fun n hn => by
    rcases List.mem_append.mp hn with hn | hn
    · exact sp2 n hn
    · rcases List.mem_cons.mp hn with rfl | hn
      · exact LM.memb_sp p
      · rw [List.mem_singleton.mp hn]; exact LM.memb_sp p
  have lm : (m2 ++ [LM.memb L 0, LM.memb L (P - 1)]).length ≤ 100 := by simp; omega
  generalize m2 ++ [LM.memb L 0, LM.memb L (P - 1)] = ms at ad sm lm
  have s2 : sAsg (tgN 5) (eBin gAdd (eFrz (fComp (iRng1M (eC (.int 2))) (tgN 8) tYesM (eMeth [("Lot", f_Lot_member)] "member" (eVar 2) (aCons (eCall f__law_take (aCons (eVar 0) (aCons (eVar 4) aNil))) aNil)) [8])) (eFrz (fLst (aCons (eMeth [("Lot", f_Lot_member)] "member" (eVar 2) (aCons (eC (.int 0)) aNil)) (aCons (eMeth [("Lot", f_Lot_member)] "member" (eVar 2) (aCons (eBin gSub (eVar 4) (eC (.int 1))) aNil)) aNil))))) (frS b w h L (some (nD P)) none none none none none) ah = some (.nx (frS b w h L (some (nD P)) (some (.lst (ms.map (faceN w h)))) none none none none), A2) := asg_ev ad
  obtain ⟨ds3, A3, e3, r3, a3⟩ := compGo_rel (g := tgN 8) (e := eCall f__law_face (aCons (eVar 0) (aCons (eVar 1) aNil))) (δ := frS b w h L (some (nD P)) (some (.lst (ms.map (faceN w h)))) none none none none) (i := nD) (P := fun _ d => ∃ c, True ∧ d = fD w h c) (R := BgR b) BgR.rf BgR.tr (l := List.range 3) (ah := A2) fun y _ ah3 hr => by
    obtain ⟨c, A, e, -, gA⟩ := ev_lface (ah := ah3) W.w1 W.w6 W.h1 W.h6 (hr g2.at').at'
    exact ⟨frS b w h L (some (nD P)) (some (.lst (ms.map (faceN w h)))) none none (some (nD y)) none, _, A, rfl, (call_ev (cons_ev (a := eVar 0) rfl (cons_ev (a := eVar 1) rfl (nil_ev _ _)))).trans e, fun _ => gA, c, trivial, rfl⟩
  obtain ⟨cs, rfl, l3, -⟩ := all2_list a3
  rw [List.length_range] at l3
  have g3 := g2.trans (r3 g2.at')
  have c3 : eFrz (fComp (iRng1M (eC (.int 3))) (tgN 8) tYesM (eCall f__law_face (aCons (eVar 0) (aCons (eVar 1) aNil))) [8]) (frS b w h L (some (nD P)) (some (.lst (ms.map (faceN w h)))) none none none none) A2 = some (.lst (cs.map (fD w h)), A3) := frz_ev ((comp_ev (vs := [8]) (rng1 (n := 3) rfl (by decide)) (by simp)).trans e3)
  have src := add_lst (a := eVar 5) (l := ms.map (faceN w h)) rfl c3 (by simp; omega)
  have e : ms.map (faceN w h) ++ cs.map (fD w h) = (ms.map (cellN w h) ++ cs).map (fD w h) := by
    rw [List.map_append, List.map_map]
    rfl
  rw [e] at src
  obtain ⟨δ', ef, y6, y7, rfl⟩ := for_fold (g := tgN 6) (i := fD w h) (f := fun (u : Unit) _ => u) (J := fun _ δ => ∃ y6 y7, δ = frS b w h L (some (nD P)) (some (.lst (ms.map (faceN w h)))) y6 y7 none none) (ah := A3) (l := ms.map (cellN w h) ++ cs) (s := ()) (δ := frS b w h L (some (nD P)) (some (.lst (ms.map (faceN w h)))) none none none none) ⟨_, _, rfl⟩ (by
    rintro c hc _ δ ⟨y6, y7, rfl⟩
    obtain ⟨z7, ez⟩ := face_turn (b := b) W g sm lm c (ah := A3) (x4 := some (nD P)) (x7 := y7) (x8 := none) (x9 := none)
    exact ⟨_, _, rfl, ez, _, _, rfl⟩)
  have hs : s__law_faces_right (frS b w h L none none none none none none) ah = some (.rt (.bl true), A3) := by
    unfold s__law_faces_right
    exact (seq_nx s1).trans ((seq_nx s2).trans ((seq_nx ((for_ev (iAny_lst src)).trans ef)).trans (ret_ev rfl)))
  exact ⟨A3, (fn_rt rfl hs).trans (congrArg some (trim_len0 g3.len)), g3⟩
end
end K19

set_option linter.all false
set_option maxRecDepth 100000
/-! data that can be written -/
namespace MM
open PySem L2
structure Rq (p : PyData) (k b : Nat) : Prop where
  s : p.showable = true
  n : p.hasDict = false
  d : p.depth ≤ k
  l : p.leavesShort 20 = true
  b : p.bulk ≤ b
structure Rqs (p : List PyData) (k b : Nat) : Prop where
  s : PyData.showableAll p = true
  n : PyData.hasDictAll p = false
  d : PyData.depthAll p ≤ k
  l : PyData.leavesShortAll 20 p = true
  b : PyData.bulkAll p ≤ p.length * (b + 1)
def Rp (d : D) (k b : Nat) : Prop := ∃ p, D.py d = some p ∧ Rq p k b
theorem Rp.mono {d : D} {k b k' b' : Nat} (h : Rp d k b) (hk : k ≤ k') (hb : b ≤ b') : Rp d k' b' := by
  obtain ⟨p, e, q⟩ := h
  exact ⟨p, e, q.s, q.n, Nat.le_trans q.d hk, q.l, Nat.le_trans q.b hb⟩
theorem rp_all {k b : Nat} : ∀ {l : List D}, (∀ x ∈ l, Rp x k b) → ∃ ps, D.pys l = some ps ∧ ps.length = l.length ∧ Rqs ps k b
  | [], _ => ⟨[], rfl, rfl, rfl, rfl, Nat.zero_le _, rfl, Nat.zero_le _⟩
  | x :: r, h => by
    obtain ⟨p, e, q⟩ := h x (List.mem_cons_self ..)
    obtain ⟨ps, e2, hl, q2⟩ := rp_all (l := r) fun y hy => h y (List.mem_cons_of_mem _ hy)
    refine ⟨p :: ps, by simp [D.pys, e, e2], by simp [hl], by simp [PyData.showableAll, q.s, q2.s], by simp [PyData.hasDictAll, q.n, q2.n], ?_, by simp [PyData.leavesShortAll, q.l, q2.l], ?_⟩
    · simp only [PyData.depthAll]
      have := q.d; have := q2.d
      omega
    · simp only [PyData.bulkAll, List.length_cons]
      have := q.b; have := q2.b
      rw [Nat.add_mul, Nat.one_mul]
      omega
theorem rp_lst {k b : Nat} {l : List D} (h : ∀ x ∈ l, Rp x k b) : Rp (.lst l) (k + 1) (l.length * (b + 1)) := by
  obtain ⟨ps, e, hl, q⟩ := rp_all h
  refine ⟨.list ps, by simp [D.py, e], by simpa [PyData.showable] using q.s, by simpa [PyData.hasDict] using q.n, ?_, by simpa [PyData.leavesShort] using q.l, ?_⟩
  · have := q.d
    simp only [PyData.depth]
    omega
  · have := q.b
    rw [hl] at this
    simpa [PyData.bulk] using this
theorem rp_tup {k b : Nat} {l : List D} (h : ∀ x ∈ l, Rp x k b) : Rp (.tup l) (k + 1) (l.length * (b + 1)) := by
  obtain ⟨ps, e, hl, q⟩ := rp_all h
  refine ⟨.tuple ps, by simp [D.py, e], by simpa [PyData.showable] using q.s, by simpa [PyData.hasDict] using q.n, ?_, by simpa [PyData.leavesShort] using q.l, ?_⟩
  · have := q.d
    simp only [PyData.depth]
    omega
  · have := q.b
    rw [hl] at this
    simpa [PyData.bulk] using this
theorem rp_non : Rp .non 0 0 := ⟨.none, rfl, rfl, rfl, Nat.le_refl _, rfl, Nat.le_refl _⟩
theorem rp_bl (b : Bool) : Rp (.bl b) 0 0 := ⟨.bool b, rfl, rfl, rfl, Nat.le_refl _, rfl, Nat.le_refl _⟩
theorem rp_int {n : Nat} (h : n < 10 ^ 20) : Rp (.int (n : Nat)) 0 0 := by
  refine ⟨.int n, rfl, ?_, rfl, Nat.le_refl _, ?_, Nat.le_refl _⟩
  · show decide ((n : Int).natAbs.log2 < 1920) = true
    refine decide_eq_true ?_
    rcases Nat.eq_zero_or_pos n with rfl | hp
    · decide
    · have : n < 2 ^ 100 := Nat.lt_of_lt_of_le h (by decide)
      have : (n : Int).natAbs.log2 < 100 := (Nat.log2_lt (by simp; omega)).mpr (by simpa using this)
      omega
  · show decide ((PyData.shown (.int (n : Int))).length ≤ 20) = true
    refine decide_eq_true ?_
    exact PyProof.Rows.toString_length_le (v := (n : Int)) (by omega) (by decide) (by exact_mod_cast h)
theorem rp_str {z : Str} (h : ∀ c ∈ z.cps.toList, c < 16 ^ 8) : Rp (.str z) 0 z.length := by
  refine ⟨.str z, rfl, rfl, rfl, Nat.le_refl _, ?_, Nat.le_refl _⟩
  show (z.cps.toList.all fun c => decide (c < 16 ^ 8)) = true
  exact List.all_eq_true.mpr fun c hc => decide_eq_true (h c hc)
/-- it is written, alike over every heap -/
theorem rp_repr {d : D} {k b : Nat} (h : Rp d k b) (hk : k < 40) (hb : b ≤ 700000) (hn : ∀ n, d ≠ .ptr n) : ∃ z, ∀ ah, gRepr ah d = some (.str z) := by
  obtain ⟨p, e, q⟩ := h
  refine ⟨p.shown, fun ah => ?_⟩
  have t : topPy ah d = some p := by
    cases d with
    | ptr n => exact absurd rfl (hn n)
    | _ => exact e
  have l := PyData.shown_le_bulk 20 (by decide) p q.l
  have := q.b
  have m : 22 * p.bulk ≤ 22 * 700000 := Nat.mul_le_mul_left _ (by omega)
  unfold gRepr
  rw [t, Option.bind_some, if_pos ⟨q.s, q.n, by have := q.d; omega, by omega⟩]
end MM

set_option linter.all false
set_option maxRecDepth 100000
namespace K19
open PySem L2 MM
open LM (mv1 moved Pl Xc Sp Cn parL)
section
variable {w h b : Nat} {L M : List Nat}
theorem gd_len (W : Wh w h) (w4 : w ≤ 4) (h4 : h ≤ 4) (g : Gd w h L) : L.length ≤ 16 := by
  have := g.cn.pl.len
  have : w * h ≤ 4 * 4 := Nat.mul_le_mul w4 h4
  omega
theorem rows_la (L : List Nat) {ah : AH} : LA ah (.lst (L.map (faceN w h))) (L.map (faceN w h)) := .inl rfl
theorem two_repr (x : Bool) : ∃ z, ∀ ah, gRepr ah (.lst [.bl x, .bl x]) = some (.str z) := by
  have r := rp_lst (k := 0) (b := 0) (l := [.bl x, .bl x]) fun d hd => by
    rcases List.mem_cons.mp hd with rfl | hd
    · exact rp_bl x
    · rw [List.mem_singleton.mp hd]; exact rp_bl x
  exact rp_repr r (by decide) (by simp) (fun n e => nomatch e)
theorem mul2 {m : ME} {δ : DL} {ah ah1 : AH} {d : D} (h : m δ ah = some (.lst [d], ah1)) : eBin gMul m (eC (.int 2)) δ ah = some (.lst [d, d], ah1) := bin_ev h (y := .int 2) rfl rfl
def prS (b w h : Nat) (Ks : List (List Nat)) (x3 x4 x5 x6 x7 x8 : Option D) : DL := [some (.ptr b), some (bxD w h), some (.lst (Ks.map (lotD w h))), x3, x4, x5, x6, x7, x8]
theorem pair_turn (W : Wh w h) (w4 : w ≤ 4) (h4 : h ≤ 4) (g : Gd w h L) (k : Gd w h M) {Ks : List (List Nat)} {ah : AH} (hb : Bd ah) {x3 x5 x7 x8 : Option D} : ∃ y7 y8, (sSeq (sPar 7 8 (eMkF "Lot" f_Lot___init__ (aCons (eVar 1) (aCons (eMeth [("Lot", f_Lot_rows)] "rows" (eVar 6) aNil) aNil))) (eMkF "Lot" f_Lot___init__ (aCons (eVar 1) (aCons (eMeth [("Lot", f_Lot_rows)] "rows" (eVar 4) aNil) aNil)))) (sSeq (sIf (tOf (eBin gNe (e1 gRepr (eFrz (fLst (aCons (eCall f_alike (aCons (eVar 6) (aCons (eVar 4) aNil))) (aCons (eCall f_alike (aCons (eVar 4) (aCons (eVar 6) aNil))) aNil))))) (e1 gRepr (eBin gMul (eFrz (fLst (aCons (eBin gEq (eMeth [("Lot", f_Lot_rows)] "rows" (eVar 6) aNil) (eMeth [("Lot", f_Lot_rows)] "rows" (eVar 4) aNil)) aNil))) (eC (.int 2)))))) (sRet (eC (.bl false))) sNil) (sSeq (sIf (tOf (eBin gNe (eMeth [("Lot", f_Lot_rows)] "rows" (eCall f_joined (aCons (eVar 6) (aCons (eVar 4) aNil))) aNil) (eMeth [("Lot", f_Lot_rows)] "rows" (eMkF "Lot" f_Lot___init__ (aCons (eVar 1) (aCons (eBin gAdd (eMeth [("Lot", f_Lot_rows)] "rows" (eVar 6) aNil) (eMeth [("Lot", f_Lot_rows)] "rows" (eVar 4) aNil)) aNil))) aNil))) (sRet (eC (.bl false))) sNil) (sIf (tOf (eBin gNe (eMeth [("Lot", f_Lot_rows)] "rows" (eCall f_met (aCons (eVar 6) (aCons (eVar 4) aNil))) aNil) (eMeth [("Lot", f_Lot_rows)] "rows" (eCall f_met (aCons (eVar 7) (aCons (eVar 8) aNil))) aNil))) (sRet (eC (.bl false))) sNil)))) (prS b w h Ks x3 (some (lotD w h M)) x5 (some (lotD w h L)) x7 x8) ah = some (.nx (prS b w h Ks x3 (some (lotD w h M)) x5 (some (lotD w h L)) y7 y8), ah) := by
  have gl := gd_len W w4 h4 g
  have kl := gd_len W w4 h4 k
  have p := g.cn.pl
  have q := k.cn.pl
  have mk6 : ∀ {x7 x8 : Option D}, eMkF "Lot" f_Lot___init__ (aCons (eVar 1) (aCons (eMeth [("Lot", f_Lot_rows)] "rows" (eVar 6) aNil) aNil)) (prS b w h Ks x3 (some (lotD w h M)) x5 (some (lotD w h L)) x7 x8) ah = some (lotD w h L, ah) := fun {x7 x8} => by
    have := mk_of W (fs := L) (ma := aCons (eVar 1) (aCons (eMeth [("Lot", f_Lot_rows)] "rows" (eVar 6) aNil) aNil)) (δ := prS b w h Ks x3 (some (lotD w h M)) x5 (some (lotD w h L)) x7 x8) g.lt (by omega) hb (rows_la L) (cons_ev (var_ev rfl) (cons_ev (mrows W p (mo := eVar 6) rfl) (nil_ev _ _)))
    rwa [lot_self g] at this
  have mk4 : ∀ {x7 x8 : Option D}, eMkF "Lot" f_Lot___init__ (aCons (eVar 1) (aCons (eMeth [("Lot", f_Lot_rows)] "rows" (eVar 4) aNil) aNil)) (prS b w h Ks x3 (some (lotD w h M)) x5 (some (lotD w h L)) x7 x8) ah = some (lotD w h M, ah) := fun {x7 x8} => by
    have := mk_of W (fs := M) (ma := aCons (eVar 1) (aCons (eMeth [("Lot", f_Lot_rows)] "rows" (eVar 4) aNil) aNil)) (δ := prS b w h Ks x3 (some (lotD w h M)) x5 (some (lotD w h L)) x7 x8) k.lt (by omega) hb (rows_la M) (cons_ev (var_ev rfl) (cons_ev (mrows W q (mo := eVar 4) rfl) (nil_ev _ _)))
    rwa [lot_self k] at this
  have s1 := par_ev (i := 7) (j := 8) (mk6 (x7 := x7) (x8 := x8)) (mk4 (x7 := x7) (x8 := x8))
  obtain ⟨z, hz⟩ := two_repr (decide (L = M))
  have t2 : tOf (eBin gNe (e1 gRepr (eFrz (fLst (aCons (eCall f_alike (aCons (eVar 6) (aCons (eVar 4) aNil))) (aCons (eCall f_alike (aCons (eVar 4) (aCons (eVar 6) aNil))) aNil))))) (e1 gRepr (eBin gMul (eFrz (fLst (aCons (eBin gEq (eMeth [("Lot", f_Lot_rows)] "rows" (eVar 6) aNil) (eMeth [("Lot", f_Lot_rows)] "rows" (eVar 4) aNil)) aNil))) (eC (.int 2))))) (prS b w h Ks x3 (some (lotD w h M)) x5 (some (lotD w h L)) (some (lotD w h L)) (some (lotD w h M))) ah = some (false, ah) := by
    have a1 := (call_ev (cons_ev (a := eVar 6) (d := lotD w h L) (δ := prS b w h Ks x3 (some (lotD w h M)) x5 (some (lotD w h L)) (some (lotD w h L)) (some (lotD w h M))) (ah := ah) rfl (cons_ev (a := eVar 4) (d := lotD w h M) rfl (nil_ev _ _)))).trans (ev_alikeL ah)
    have a2 := (call_ev (cons_ev (a := eVar 4) (d := lotD w h M) (δ := prS b w h Ks x3 (some (lotD w h M)) x5 (some (lotD w h L)) (some (lotD w h L)) (some (lotD w h M))) (ah := ah) rfl (cons_ev (a := eVar 6) (d := lotD w h L) rfl (nil_ev _ _)))).trans (ev_alikeL ah)
    rw [decide_eq_decide.mpr (show M = L ↔ L = M from ⟨Eq.symm, Eq.symm⟩)] at a2
    have e1' := e1_ev (frz_ev (lst_ev (cons_ev a1 (cons_ev a2 (nil_ev _ _))) (by simp))) (hz ah)
    have er : gEq ah (.lst (L.map (faceN w h))) (.lst (M.map (faceN w h))) = some (.bl (decide (L = M))) := by
      unfold gEq
      rw [dEq_pb (n := 2) (by decide) (fs_pb L) (fs_pb M)]
      show some (D.bl (decide (_ = _))) = _
      rw [decide_eq_decide.mpr ⟨fun e => faces_inj g.lt k.lt (D.lst.inj e), fun e => by rw [e]⟩]
    have r1 := bin_ev (mrows W p (mo := eVar 6) (δ := prS b w h Ks x3 (some (lotD w h M)) x5 (some (lotD w h L)) (some (lotD w h L)) (some (lotD w h M))) (ah := ah) rfl) (mrows W q (mo := eVar 4) rfl) er
    have e2' := e1_ev (mul2 (frz_ev (lst_ev (cons_ev r1 (nil_ev _ _)) (by simp)))) (hz ah)
    refine tof_ev ((ne_str e1' e2').trans ?_)
    simp
  have t3 : tOf (eBin gNe (eMeth [("Lot", f_Lot_rows)] "rows" (eCall f_joined (aCons (eVar 6) (aCons (eVar 4) aNil))) aNil) (eMeth [("Lot", f_Lot_rows)] "rows" (eMkF "Lot" f_Lot___init__ (aCons (eVar 1) (aCons (eBin gAdd (eMeth [("Lot", f_Lot_rows)] "rows" (eVar 6) aNil) (eMeth [("Lot", f_Lot_rows)] "rows" (eVar 4) aNil)) aNil))) aNil)) (prS b w h Ks x3 (some (lotD w h M)) x5 (some (lotD w h L)) (some (lotD w h L)) (some (lotD w h M))) ah = some (false, ah) := by
    have j1 := (call_ev (cons_ev (a := eVar 6) (d := lotD w h L) (δ := prS b w h Ks x3 (some (lotD w h M)) x5 (some (lotD w h L)) (some (lotD w h L)) (some (lotD w h M))) (ah := ah) rfl (cons_ev (a := eVar 4) (d := lotD w h M) rfl (nil_ev _ _)))).trans (ev_joinedL W p q hb)
    have ad := add_lst (mrows W p (mo := eVar 6) (δ := prS b w h Ks x3 (some (lotD w h M)) x5 (some (lotD w h L)) (some (lotD w h L)) (some (lotD w h M))) (ah := ah) rfl) (mrows W q (mo := eVar 4) rfl) (by simp; omega)
    rw [← List.map_append] at ad
    have mk := mk_of W (fs := L ++ M) (ma := aCons (eVar 1) (aCons (eBin gAdd (eMeth [("Lot", f_Lot_rows)] "rows" (eVar 6) aNil) (eMeth [("Lot", f_Lot_rows)] "rows" (eVar 4) aNil)) aNil)) (both_lt g k) (by simp; omega) hb (rows_la (L ++ M)) (cons_ev (var_ev rfl) (cons_ev ad (nil_ev _ _)))
    rw [lot_both g k] at mk
    have pj := (plain_gd g k).cn.pl
    exact tof_ev (bin_ev (mrows W pj j1) (mrows W pj mk) (ne_same (n := 2) (by decide) (fs_pb _)))
  have t4 : tOf (eBin gNe (eMeth [("Lot", f_Lot_rows)] "rows" (eCall f_met (aCons (eVar 6) (aCons (eVar 4) aNil))) aNil) (eMeth [("Lot", f_Lot_rows)] "rows" (eCall f_met (aCons (eVar 7) (aCons (eVar 8) aNil))) aNil)) (prS b w h Ks x3 (some (lotD w h M)) x5 (some (lotD w h L)) (some (lotD w h L)) (some (lotD w h M))) ah = some (false, ah) := by
    have j1 := (call_ev (cons_ev (a := eVar 6) (d := lotD w h L) (δ := prS b w h Ks x3 (some (lotD w h M)) x5 (some (lotD w h L)) (some (lotD w h L)) (some (lotD w h M))) (ah := ah) rfl (cons_ev (a := eVar 4) (d := lotD w h M) rfl (nil_ev _ _)))).trans (ev_metL W p q hb)
    have j2 := (call_ev (cons_ev (a := eVar 7) (d := lotD w h L) (δ := prS b w h Ks x3 (some (lotD w h M)) x5 (some (lotD w h L)) (some (lotD w h L)) (some (lotD w h M))) (ah := ah) rfl (cons_ev (a := eVar 8) (d := lotD w h M) rfl (nil_ev _ _)))).trans (ev_metL W p q hb)
    have pj := metRows_pl p q
    exact tof_ev (bin_ev (mrows W pj j1) (mrows W pj j2) (ne_same (n := 2) (by decide) (fs_pb _)))
  exact ⟨_, _, (seq_nx s1).trans ((seq_nx (nil_t t2)).trans ((seq_nx (nil_t t3)).trans (nil_t t4)))⟩
theorem ev_pairs (W : Wh w h) (w4 : w ≤ 4) (h4 : h ≤ 4) {Ks : List (List Nat)} (hK : ∀ K ∈ Ks, Gd w h K) (k0 : 1 ≤ Ks.length) (k1 : Ks.length ≤ 1000) {ah : AH} (hBd : Bd ah) (hb : BagAt ah b) : ∃ ah', f__law_pairs_right [.ptr b, bxD w h, .lst (Ks.map (lotD w h))] ah = some (.bl true, ah') := by
  have pick : ∀ {δ : DL} {H : AH}, BagAt H b → δ[0]? = some (some (.ptr b)) → δ[2]? = some (some (.lst (Ks.map (lotD w h)))) → ∃ K H', K ∈ Ks ∧ eIx (eVar 2) (eCall f__law_take (aCons (eVar 0) (aCons (e1 gLen (eVar 2)) aNil))) δ H = some (lotD w h K, H') ∧ Bg b H H' := fun {δ H} hH v0 v2 => by
    have ln := len_lst (m := eVar 2) (δ := δ) (ah := H) (l := Ks.map (lotD w h)) (var_ev v2)
    rw [List.length_map] at ln
    obtain ⟨r, H', t, l, gH⟩ := take_ev (i := 0) (m := MM.e1 gLen (eVar 2)) hH v0 ln (many := (Ks.length : Nat)) (by omega) (by omega)
    have rl : r < Ks.length := by omega
    exact ⟨Ks[r], H', List.getElem_mem rl, idx3 (m := eVar 2) (i := r) (var_ev v2) t (by simp [rl]), gH⟩
  obtain ⟨δ', H', e, ⟨gH, -⟩, x3, x4, x5, x6, x7, x8, rfl⟩ := for_foldH (g := tgN 3) (i := nD) (f := fun (u : Unit) _ => u) (J := fun _ δ H => (Bg b ah H ∧ Bd H) ∧ ∃ x3 x4 x5 x6 x7 x8, δ = prS b w h Ks x3 x4 x5 x6 x7 x8) (l := List.range 2) (s := ()) (δ := prS b w h Ks none none none none none none) (ah := ah) ⟨⟨Bg.refl hb, hBd⟩, _, _, _, _, _, _, rfl⟩ (by
    rintro x hx _ δ H ⟨⟨gH, bH⟩, x3, x4, x5, x6, x7, x8, rfl⟩
    obtain ⟨M, H1, hM, e1, g1⟩ := pick (δ := prS b w h Ks (some (nD x)) x4 x5 x6 x7 x8) gH.at' rfl rfl
    have s1 := asg_ev (i := 4) e1
    obtain ⟨K1, H2, hK1, e2, g2⟩ := pick (δ := prS b w h Ks (some (nD x)) (some (lotD w h M)) x5 x6 x7 x8) g1.at' rfl rfl
    obtain ⟨K2, H3, hK2, e3, g3⟩ := pick (δ := prS b w h Ks (some (nD x)) (some (lotD w h M)) x5 x6 x7 x8) g2.at' rfl rfl
    have s2 := asg_ev (i := 5) (frz_ev (lst_ev (cons_ev e2 (cons_ev e3 (cons_ev (a := eVar 4) (d := lotD w h M) rfl (nil_ev _ _)))) (by simp)))
    have gg := gH.trans (g1.trans (g2.trans g3))
    have b3 := gg.bd hBd
    have sl := sl_take (m := eVar 5) (a := eC (.int ((1 : Nat) : Int))) (δ := prS b w h Ks (some (nD x)) (some (lotD w h M)) (some (.lst [lotD w h K1, lotD w h K2, lotD w h M])) x6 x7 x8) (ah := H3) (i := 1) rfl rfl
    have src := add_lst (a := eVar 5) (l := [lotD w h K1, lotD w h K2, lotD w h M]) rfl sl (by simp)
    have src : iAny (eBin gAdd (eVar 5) (eSl (eVar 5) oNone (oSome (eC (.int 1))))) (prS b w h Ks (some (nD x)) (some (lotD w h M)) (some (.lst [lotD w h K1, lotD w h K2, lotD w h M])) x6 x7 x8) H3 = some ([K1, K2, M, K1].map (lotD w h), H3) := iAny_lst src
    obtain ⟨δ4, e4, y6, y7, y8, rfl⟩ := for_fold (g := tgN 6) (i := lotD w h) (f := fun (u : Unit) _ => u) (J := fun _ δ => ∃ y6 y7 y8, δ = prS b w h Ks (some (nD x)) (some (lotD w h M)) (some (.lst [lotD w h K1, lotD w h K2, lotD w h M])) y6 y7 y8) (ah := H3) (l := [K1, K2, M, K1]) (s := ()) (δ := prS b w h Ks (some (nD x)) (some (lotD w h M)) (some (.lst [lotD w h K1, lotD w h K2, lotD w h M])) x6 x7 x8) ⟨_, _, _, rfl⟩ (by
      rintro K hK' _ δ ⟨y6, y7, y8, rfl⟩
      have gK : Gd w h K := by
        simp only [List.mem_cons, List.not_mem_nil, or_false] at hK'
        rcases hK' with rfl | rfl | rfl | rfl
        · exact hK _ hK1
        · exact hK _ hK2
        · exact hK _ hM
        · exact hK _ hK1
      obtain ⟨z7, z8, ez⟩ := pair_turn (b := b) W w4 h4 gK (hK M hM) (Ks := Ks) b3 (x3 := some (nD x)) (x5 := some (.lst [lotD w h K1, lotD w h K2, lotD w h M])) (x7 := y7) (x8 := y8)
      exact ⟨_, _, rfl, ez, _, _, _, rfl⟩)
    exact ⟨_, _, H3, rfl, (seq_nx s1).trans ((seq_nx s2).trans ((for_ev src).trans e4)), ⟨gg, b3⟩, _, _, _, _, _, _, rfl⟩)
  have hs : s__law_pairs_right (prS b w h Ks none none none none none none) ah = some (.rt (.bl true), H') := by
    unfold s__law_pairs_right
    exact (seq_nx ((for_ev (rng1 (n := 2) rfl (by decide))).trans e)).trans (ret_ev rfl)
  exact ⟨H', (fn_rt rfl hs).trans (congrArg some (trim_len0 gH.len))⟩
end
end K19

set_option Elab.async false
set_option linter.all false
set_option maxRecDepth 100000
set_option maxHeartbeats 0
namespace K19
open PySem L2 MM
/-! ### 6. the facts, for the head -/
def fa : List He.Fa := [.free "abs", .free "all", .free "bool", .free "int", .free "isinstance", .free "len", .free "list", .free "range", .free "repr", .free "sorted", .free "str", .free "tuple", .str "FLAT" ".", .int "MOST_FACES" 60, .int "MOST_SIDE" 6, .int "QUARTERS" 4, .glo "TURNINGS", .str "UP" "o", .glo "Lot", .cls "Lot", .mkr "Lot", .noat "Lot" "frame", .noat "Lot" "plain", .meth "Lot" "against", .meth "Lot" "box", .meth "Lot" "comb", .meth "Lot" "core", .meth "Lot" "doublings", .meth "Lot" "has", .meth "Lot" "layers", .meth "Lot" "makers", .meth "Lot" "member", .meth "Lot" "number_of", .meth "Lot" "rows", .meth "Lot" "still", .glo "_law_bag", .glo "_law_take", .glo "_law_box", .glo "_law_face", .glo "_law_turnings", .glo "_law_spun", .glo "_law_images", .glo "_law_over", .glo "_law_whole", .glo "_law_seeds", .glo "is_whole", .glo "is_side", .glo "is_box", .glo "is_face_row", .glo "is_face", .glo "is_face_of", .glo "are_box_faces", .glo "bits_of", .glo "quarters", .glo "turnings_of", .glo "bit_cells", .glo "cell_bit", .glo "exchanges", .glo "turned_cell", .glo "moves_of", .glo "all_moves", .glo "moved_bits", .glo "top_bit", .glo "sifted", .glo "joined_rows", .glo "lot_rows", .glo "core_rows", .glo "lot_from", .glo "plain_rows", .glo "still_rows", .glo "comb_at", .glo "against_rows", .glo "met_rows", .glo "need_like", .glo "joined", .glo "met", .glo "_law_told_lots", .glo "face_from", .glo "_law_alike_right", .glo "apart_over", .glo "_law_makers_right", .glo "_law_odd", .glo "_law_faces_right", .glo "alike", .glo "_law_pairs_right", .glo "law"]
def d__law_bag : He.DefD := ⟨("_law_bag", none), "_law_bag", "_law_bag", defArgs st__law_bag, defBody st__law_bag, defScope st__law_bag, [], []⟩
def d__law_take : He.DefD := ⟨("_law_take", none), "_law_take", "_law_take", defArgs st__law_take, defBody st__law_take, defScope st__law_take, [], []⟩
def d__law_box : He.DefD := ⟨("_law_box", none), "_law_box", "_law_box", defArgs st__law_box, defBody st__law_box, defScope st__law_box, [], []⟩
def d__law_face : He.DefD := ⟨("_law_face", none), "_law_face", "_law_face", defArgs st__law_face, defBody st__law_face, defScope st__law_face, [], []⟩
def d__law_turnings : He.DefD := ⟨("_law_turnings", none), "_law_turnings", "_law_turnings", defArgs st__law_turnings, defBody st__law_turnings, defScope st__law_turnings, [], []⟩
def d__law_spun : He.DefD := ⟨("_law_spun", none), "_law_spun", "_law_spun", defArgs st__law_spun, defBody st__law_spun, defScope st__law_spun, [], []⟩
def d__law_images : He.DefD := ⟨("_law_images", none), "_law_images", "_law_images", defArgs st__law_images, defBody st__law_images, defScope st__law_images, [], []⟩
def d__law_over : He.DefD := ⟨("_law_over", none), "_law_over", "_law_over", defArgs st__law_over, defBody st__law_over, defScope st__law_over, [], []⟩
def d__law_whole : He.DefD := ⟨("_law_whole", none), "_law_whole", "_law_whole", defArgs st__law_whole, defBody st__law_whole, defScope st__law_whole, [], []⟩
def d__law_seeds : He.DefD := ⟨("_law_seeds", none), "_law_seeds", "_law_seeds", defArgs st__law_seeds, defBody st__law_seeds, defScope st__law_seeds, [], []⟩
def d_is_whole : He.DefD := ⟨("is_whole", none), "is_whole", "is_whole", defArgs st_is_whole, defBody st_is_whole, defScope st_is_whole, [], []⟩
def d_is_side : He.DefD := ⟨("is_side", none), "is_side", "is_side", defArgs st_is_side, defBody st_is_side, defScope st_is_side, [], []⟩
def d_is_box : He.DefD := ⟨("is_box", none), "is_box", "is_box", defArgs st_is_box, defBody st_is_box, defScope st_is_box, [], []⟩
def d_is_face_row : He.DefD := ⟨("is_face_row", none), "is_face_row", "is_face_row", defArgs st_is_face_row, defBody st_is_face_row, defScope st_is_face_row, [], []⟩
def d_is_face : He.DefD := ⟨("is_face", none), "is_face", "is_face", defArgs st_is_face, defBody st_is_face, defScope st_is_face, [], []⟩
def d_is_face_of : He.DefD := ⟨("is_face_of", none), "is_face_of", "is_face_of", defArgs st_is_face_of, defBody st_is_face_of, defScope st_is_face_of, [], []⟩
def d_are_box_faces : He.DefD := ⟨("are_box_faces", none), "are_box_faces", "are_box_faces", defArgs st_are_box_faces, defBody st_are_box_faces, defScope st_are_box_faces, [], []⟩
def d_bits_of : He.DefD := ⟨("bits_of", none), "bits_of", "bits_of", defArgs st_bits_of, defBody st_bits_of, defScope st_bits_of, [], []⟩
def d_quarters : He.DefD := ⟨("quarters", none), "quarters", "quarters", defArgs st_quarters, defBody st_quarters, defScope st_quarters, [], []⟩
def d_turnings_of : He.DefD := ⟨("turnings_of", none), "turnings_of", "turnings_of", defArgs st_turnings_of, defBody st_turnings_of, defScope st_turnings_of, [], []⟩
def d_bit_cells : He.DefD := ⟨("bit_cells", none), "bit_cells", "bit_cells", defArgs st_bit_cells, defBody st_bit_cells, defScope st_bit_cells, [], []⟩
def d_cell_bit : He.DefD := ⟨("cell_bit", none), "cell_bit", "cell_bit", defArgs st_cell_bit, defBody st_cell_bit, defScope st_cell_bit, [], []⟩
def d_exchanges : He.DefD := ⟨("exchanges", none), "exchanges", "exchanges", defArgs st_exchanges, defBody st_exchanges, defScope st_exchanges, [], []⟩
def d_turned_cell : He.DefD := ⟨("turned_cell", none), "turned_cell", "turned_cell", defArgs st_turned_cell, defBody st_turned_cell, defScope st_turned_cell, [], []⟩
def d_moves_of : He.DefD := ⟨("moves_of", none), "moves_of", "moves_of", defArgs st_moves_of, defBody st_moves_of, defScope st_moves_of, [], []⟩
def d_all_moves : He.DefD := ⟨("all_moves", none), "all_moves", "all_moves", defArgs st_all_moves, defBody st_all_moves, defScope st_all_moves, [], []⟩
def d_moved_bits : He.DefD := ⟨("moved_bits", none), "moved_bits", "moved_bits", defArgs st_moved_bits, defBody st_moved_bits, defScope st_moved_bits, [], []⟩
def d_top_bit : He.DefD := ⟨("top_bit", none), "top_bit", "top_bit", defArgs st_top_bit, defBody st_top_bit, defScope st_top_bit, [], []⟩
def d_sifted : He.DefD := ⟨("sifted", none), "sifted", "sifted", defArgs st_sifted, defBody st_sifted, defScope st_sifted, [], []⟩
def d_joined_rows : He.DefD := ⟨("joined_rows", none), "joined_rows", "joined_rows", defArgs st_joined_rows, defBody st_joined_rows, defScope st_joined_rows, [], []⟩
def d_lot_rows : He.DefD := ⟨("lot_rows", none), "lot_rows", "lot_rows", defArgs st_lot_rows, defBody st_lot_rows, defScope st_lot_rows, [], []⟩
def d_Lot___init__ : He.DefD := ⟨("Lot", some "__init__"), "__init__", "Lot.__init__", defArgs st_Lot___init__, defBody st_Lot___init__, defScope st_Lot___init__, [], []⟩
def d_core_rows : He.DefD := ⟨("core_rows", none), "core_rows", "core_rows", defArgs st_core_rows, defBody st_core_rows, defScope st_core_rows, [], []⟩
def d_lot_from : He.DefD := ⟨("lot_from", none), "lot_from", "lot_from", defArgs st_lot_from, defBody st_lot_from, defScope st_lot_from, [], []⟩
def d_Lot_core : He.DefD := ⟨("Lot", some "core"), "core", "Lot.core", defArgs st_Lot_core, defBody st_Lot_core, defScope st_Lot_core, [], []⟩
def d_plain_rows : He.DefD := ⟨("plain_rows", none), "plain_rows", "plain_rows", defArgs st_plain_rows, defBody st_plain_rows, defScope st_plain_rows, [], []⟩
def d_still_rows : He.DefD := ⟨("still_rows", none), "still_rows", "still_rows", defArgs st_still_rows, defBody st_still_rows, defScope st_still_rows, [], []⟩
def d_comb_at : He.DefD := ⟨("comb_at", none), "comb_at", "comb_at", defArgs st_comb_at, defBody st_comb_at, defScope st_comb_at, [], []⟩
def d_against_rows : He.DefD := ⟨("against_rows", none), "against_rows", "against_rows", defArgs st_against_rows, defBody st_against_rows, defScope st_against_rows, [], []⟩
def d_met_rows : He.DefD := ⟨("met_rows", none), "met_rows", "met_rows", defArgs st_met_rows, defBody st_met_rows, defScope st_met_rows, [], []⟩
def d_Lot_still : He.DefD := ⟨("Lot", some "still"), "still", "Lot.still", defArgs st_Lot_still, defBody st_Lot_still, defScope st_Lot_still, [], []⟩
def d_Lot_against : He.DefD := ⟨("Lot", some "against"), "against", "Lot.against", defArgs st_Lot_against, defBody st_Lot_against, defScope st_Lot_against, [], []⟩
def d_need_like : He.DefD := ⟨("need_like", none), "need_like", "need_like", defArgs st_need_like, defBody st_need_like, defScope st_need_like, [], []⟩
def d_joined : He.DefD := ⟨("joined", none), "joined", "joined", defArgs st_joined, defBody st_joined, defScope st_joined, [], []⟩
def d_met : He.DefD := ⟨("met", none), "met", "met", defArgs st_met, defBody st_met, defScope st_met, [], []⟩
def d_Lot_layers : He.DefD := ⟨("Lot", some "layers"), "layers", "Lot.layers", defArgs st_Lot_layers, defBody st_Lot_layers, defScope st_Lot_layers, [], []⟩
def d__law_told_lots : He.DefD := ⟨("_law_told_lots", none), "_law_told_lots", "_law_told_lots", defArgs st__law_told_lots, defBody st__law_told_lots, defScope st__law_told_lots, [], []⟩
def d_face_from : He.DefD := ⟨("face_from", none), "face_from", "face_from", defArgs st_face_from, defBody st_face_from, defScope st_face_from, [], []⟩
def d_Lot_rows : He.DefD := ⟨("Lot", some "rows"), "rows", "Lot.rows", defArgs st_Lot_rows, defBody st_Lot_rows, defScope st_Lot_rows, [], []⟩
def d_Lot_doublings : He.DefD := ⟨("Lot", some "doublings"), "doublings", "Lot.doublings", defArgs st_Lot_doublings, defBody st_Lot_doublings, defScope st_Lot_doublings, [], []⟩
def d_Lot_box : He.DefD := ⟨("Lot", some "box"), "box", "Lot.box", defArgs st_Lot_box, defBody st_Lot_box, defScope st_Lot_box, [], []⟩
def d__law_alike_right : He.DefD := ⟨("_law_alike_right", none), "_law_alike_right", "_law_alike_right", defArgs st__law_alike_right, defBody st__law_alike_right, defScope st__law_alike_right, [], []⟩
def d_apart_over : He.DefD := ⟨("apart_over", none), "apart_over", "apart_over", defArgs st_apart_over, defBody st_apart_over, defScope st_apart_over, [], []⟩
def d_Lot_makers : He.DefD := ⟨("Lot", some "makers"), "makers", "Lot.makers", defArgs st_Lot_makers, defBody st_Lot_makers, defScope st_Lot_makers, [], []⟩
def d__law_makers_right : He.DefD := ⟨("_law_makers_right", none), "_law_makers_right", "_law_makers_right", defArgs st__law_makers_right, defBody st__law_makers_right, defScope st__law_makers_right, [], []⟩
def d_Lot_member : He.DefD := ⟨("Lot", some "member"), "member", "Lot.member", defArgs st_Lot_member, defBody st_Lot_member, defScope st_Lot_member, [], []⟩
def d_Lot_has : He.DefD := ⟨("Lot", some "has"), "has", "Lot.has", defArgs st_Lot_has, defBody st_Lot_has, defScope st_Lot_has, [], []⟩
def d_Lot_number_of : He.DefD := ⟨("Lot", some "number_of"), "number_of", "Lot.number_of", defArgs st_Lot_number_of, defBody st_Lot_number_of, defScope st_Lot_number_of, [], []⟩
def d_Lot_comb : He.DefD := ⟨("Lot", some "comb"), "comb", "Lot.comb", defArgs st_Lot_comb, defBody st_Lot_comb, defScope st_Lot_comb, [], []⟩
def d__law_odd : He.DefD := ⟨("_law_odd", none), "_law_odd", "_law_odd", defArgs st__law_odd, defBody st__law_odd, defScope st__law_odd, [], []⟩
def d__law_faces_right : He.DefD := ⟨("_law_faces_right", none), "_law_faces_right", "_law_faces_right", defArgs st__law_faces_right, defBody st__law_faces_right, defScope st__law_faces_right, [], []⟩
def d_alike : He.DefD := ⟨("alike", none), "alike", "alike", defArgs st_alike, defBody st_alike, defScope st_alike, [], []⟩
def d__law_pairs_right : He.DefD := ⟨("_law_pairs_right", none), "_law_pairs_right", "_law_pairs_right", defArgs st__law_pairs_right, defBody st__law_pairs_right, defScope st__law_pairs_right, [], []⟩
def d_law : He.DefD := ⟨("law", none), "law", "law", defArgs st_law, defBody st_law, defScope st_law, [], []⟩
def fn : List He.DefD := [d__law_bag, d__law_take, d__law_box, d__law_face, d__law_turnings, d__law_spun, d__law_images, d__law_over, d__law_whole, d__law_seeds, d_is_whole, d_is_side, d_is_box, d_is_face_row, d_is_face, d_is_face_of, d_are_box_faces, d_bits_of, d_quarters, d_turnings_of, d_bit_cells, d_cell_bit, d_exchanges, d_turned_cell, d_moves_of, d_all_moves, d_moved_bits, d_top_bit, d_sifted, d_joined_rows, d_lot_rows, d_Lot___init__, d_core_rows, d_lot_from, d_Lot_core, d_plain_rows, d_still_rows, d_comb_at, d_against_rows, d_met_rows, d_Lot_still, d_Lot_against, d_need_like, d_joined, d_met, d_Lot_layers, d__law_told_lots, d_face_from, d_Lot_rows, d_Lot_doublings, d_Lot_box, d__law_alike_right, d_apart_over, d_Lot_makers, d__law_makers_right, d_Lot_member, d_Lot_has, d_Lot_number_of, d_Lot_comb, d__law_odd, d__law_faces_right, d_alike, d__law_pairs_right, d_law]
def clT (K : PySem.W.Frag) : Str → Option Addr := fun c => if c = "Lot" then some (He.ga K "Lot") else none
def xtra (K : PySem.W.Frag) : Bool := tupC K "TURNINGS" l_TURNINGS && true
theorem tx_of {K : PySem.W.Frag} {h : Heap} {mg : Str → Option Value} (X : K.In h) (G : h.Ns mainGlobals mg) (c : He.SaysD fa fn K) (x : xtra K = true) : Tx K mg (clT K) := by
  unfold xtra at x
  simp only [Bool.and_eq_true] at x
  obtain ⟨x_TURNINGS, _⟩ := x
  exact {
    b_abs := He.free_ok X G (c.fact 0 (f := .free "abs") rfl)
    b_all := He.free_ok X G (c.fact 1 (f := .free "all") rfl)
    b_bool := He.free_ok X G (c.fact 2 (f := .free "bool") rfl)
    b_int := He.free_ok X G (c.fact 3 (f := .free "int") rfl)
    b_isinstance := He.free_ok X G (c.fact 4 (f := .free "isinstance") rfl)
    b_len := He.free_ok X G (c.fact 5 (f := .free "len") rfl)
    b_list := He.free_ok X G (c.fact 6 (f := .free "list") rfl)
    b_range := He.free_ok X G (c.fact 7 (f := .free "range") rfl)
    b_repr := He.free_ok X G (c.fact 8 (f := .free "repr") rfl)
    b_sorted := He.free_ok X G (c.fact 9 (f := .free "sorted") rfl)
    b_str := He.free_ok X G (c.fact 10 (f := .free "str") rfl)
    b_tuple := He.free_ok X G (c.fact 11 (f := .free "tuple") rfl)
    g_FLAT := gc_str (He.str_ok X G (c.fact 12 (f := .str "FLAT" ".") rfl))
    g_MOST_FACES := gc_int (He.int_ok X G (c.fact 13 (f := .int "MOST_FACES" 60) rfl))
    g_MOST_SIDE := gc_int (He.int_ok X G (c.fact 14 (f := .int "MOST_SIDE" 6) rfl))
    g_QUARTERS := gc_int (He.int_ok X G (c.fact 15 (f := .int "QUARTERS" 4) rfl))
    g_TURNINGS := (tc_of (He.glo_ok X G (c.fact 16 (f := .glo "TURNINGS") rfl)) x_TURNINGS).gc
    t_TURNINGS := tc_of (He.glo_ok X G (c.fact 16 (f := .glo "TURNINGS") rfl)) x_TURNINGS
    g_UP := gc_str (He.str_ok X G (c.fact 17 (f := .str "UP" "o") rfl))
    C_Lot := He.glo_ok X G (c.fact 18 (f := .glo "Lot") rfl)
    cl_Lot := by unfold clT; first | rfl | simp only [if_pos, if_neg]; decide +kernel
    k_Lot := He.cls_ok (c.fact 19 (f := .cls "Lot") rfl)
    mk_Lot := He.mkr_ok (c.fact 20 (f := .mkr "Lot") rfl)
    n_frame := fldOk_of (fun c hc => by
      simp only [List.mem_cons, List.not_mem_nil, or_false] at hc
      rcases hc with rfl
      · exact ⟨He.ga K "Lot", by unfold clT; first | rfl | simp only [if_pos, if_neg]; decide +kernel, He.cls_ok (c.fact 19 (f := .cls "Lot") rfl), He.noat_ok (c.fact 21 (f := .noat "Lot" "frame") rfl)⟩
    )
    n_plain := fldOk_of (fun c hc => by
      simp only [List.mem_cons, List.not_mem_nil, or_false] at hc
      rcases hc with rfl
      · exact ⟨He.ga K "Lot", by unfold clT; first | rfl | simp only [if_pos, if_neg]; decide +kernel, He.cls_ok (c.fact 19 (f := .cls "Lot") rfl), He.noat_ok (c.fact 22 (f := .noat "Lot" "plain") rfl)⟩
    )
    m_Lot_against := He.meth_ok (c.fact 23 (f := .meth "Lot" "against") rfl)
    m_Lot_box := He.meth_ok (c.fact 24 (f := .meth "Lot" "box") rfl)
    m_Lot_comb := He.meth_ok (c.fact 25 (f := .meth "Lot" "comb") rfl)
    m_Lot_core := He.meth_ok (c.fact 26 (f := .meth "Lot" "core") rfl)
    m_Lot_doublings := He.meth_ok (c.fact 27 (f := .meth "Lot" "doublings") rfl)
    m_Lot_has := He.meth_ok (c.fact 28 (f := .meth "Lot" "has") rfl)
    m_Lot_layers := He.meth_ok (c.fact 29 (f := .meth "Lot" "layers") rfl)
    m_Lot_makers := He.meth_ok (c.fact 30 (f := .meth "Lot" "makers") rfl)
    m_Lot_member := He.meth_ok (c.fact 31 (f := .meth "Lot" "member") rfl)
    m_Lot_number_of := He.meth_ok (c.fact 32 (f := .meth "Lot" "number_of") rfl)
    m_Lot_rows := He.meth_ok (c.fact 33 (f := .meth "Lot" "rows") rfl)
    m_Lot_still := He.meth_ok (c.fact 34 (f := .meth "Lot" "still") rfl)
    g__law_bag := He.glo_ok X G (c.fact 35 (f := .glo "_law_bag") rfl)
    F__law_bag := c.def_ 0 (d := d__law_bag) rfl
    g__law_take := He.glo_ok X G (c.fact 36 (f := .glo "_law_take") rfl)
    F__law_take := c.def_ 1 (d := d__law_take) rfl
    g__law_box := He.glo_ok X G (c.fact 37 (f := .glo "_law_box") rfl)
    F__law_box := c.def_ 2 (d := d__law_box) rfl
    g__law_face := He.glo_ok X G (c.fact 38 (f := .glo "_law_face") rfl)
    F__law_face := c.def_ 3 (d := d__law_face) rfl
    g__law_turnings := He.glo_ok X G (c.fact 39 (f := .glo "_law_turnings") rfl)
    F__law_turnings := c.def_ 4 (d := d__law_turnings) rfl
    g__law_spun := He.glo_ok X G (c.fact 40 (f := .glo "_law_spun") rfl)
    F__law_spun := c.def_ 5 (d := d__law_spun) rfl
    g__law_images := He.glo_ok X G (c.fact 41 (f := .glo "_law_images") rfl)
    F__law_images := c.def_ 6 (d := d__law_images) rfl
    g__law_over := He.glo_ok X G (c.fact 42 (f := .glo "_law_over") rfl)
    F__law_over := c.def_ 7 (d := d__law_over) rfl
    g__law_whole := He.glo_ok X G (c.fact 43 (f := .glo "_law_whole") rfl)
    F__law_whole := c.def_ 8 (d := d__law_whole) rfl
    g__law_seeds := He.glo_ok X G (c.fact 44 (f := .glo "_law_seeds") rfl)
    F__law_seeds := c.def_ 9 (d := d__law_seeds) rfl
    g_is_whole := He.glo_ok X G (c.fact 45 (f := .glo "is_whole") rfl)
    F_is_whole := c.def_ 10 (d := d_is_whole) rfl
    g_is_side := He.glo_ok X G (c.fact 46 (f := .glo "is_side") rfl)
    F_is_side := c.def_ 11 (d := d_is_side) rfl
    g_is_box := He.glo_ok X G (c.fact 47 (f := .glo "is_box") rfl)
    F_is_box := c.def_ 12 (d := d_is_box) rfl
    g_is_face_row := He.glo_ok X G (c.fact 48 (f := .glo "is_face_row") rfl)
    F_is_face_row := c.def_ 13 (d := d_is_face_row) rfl
    g_is_face := He.glo_ok X G (c.fact 49 (f := .glo "is_face") rfl)
    F_is_face := c.def_ 14 (d := d_is_face) rfl
    g_is_face_of := He.glo_ok X G (c.fact 50 (f := .glo "is_face_of") rfl)
    F_is_face_of := c.def_ 15 (d := d_is_face_of) rfl
    g_are_box_faces := He.glo_ok X G (c.fact 51 (f := .glo "are_box_faces") rfl)
    F_are_box_faces := c.def_ 16 (d := d_are_box_faces) rfl
    g_bits_of := He.glo_ok X G (c.fact 52 (f := .glo "bits_of") rfl)
    F_bits_of := c.def_ 17 (d := d_bits_of) rfl
    g_quarters := He.glo_ok X G (c.fact 53 (f := .glo "quarters") rfl)
    F_quarters := c.def_ 18 (d := d_quarters) rfl
    g_turnings_of := He.glo_ok X G (c.fact 54 (f := .glo "turnings_of") rfl)
    F_turnings_of := c.def_ 19 (d := d_turnings_of) rfl
    g_bit_cells := He.glo_ok X G (c.fact 55 (f := .glo "bit_cells") rfl)
    F_bit_cells := c.def_ 20 (d := d_bit_cells) rfl
    g_cell_bit := He.glo_ok X G (c.fact 56 (f := .glo "cell_bit") rfl)
    F_cell_bit := c.def_ 21 (d := d_cell_bit) rfl
    g_exchanges := He.glo_ok X G (c.fact 57 (f := .glo "exchanges") rfl)
    F_exchanges := c.def_ 22 (d := d_exchanges) rfl
    g_turned_cell := He.glo_ok X G (c.fact 58 (f := .glo "turned_cell") rfl)
    F_turned_cell := c.def_ 23 (d := d_turned_cell) rfl
    g_moves_of := He.glo_ok X G (c.fact 59 (f := .glo "moves_of") rfl)
    F_moves_of := c.def_ 24 (d := d_moves_of) rfl
    g_all_moves := He.glo_ok X G (c.fact 60 (f := .glo "all_moves") rfl)
    F_all_moves := c.def_ 25 (d := d_all_moves) rfl
    g_moved_bits := He.glo_ok X G (c.fact 61 (f := .glo "moved_bits") rfl)
    F_moved_bits := c.def_ 26 (d := d_moved_bits) rfl
    g_top_bit := He.glo_ok X G (c.fact 62 (f := .glo "top_bit") rfl)
    F_top_bit := c.def_ 27 (d := d_top_bit) rfl
    g_sifted := He.glo_ok X G (c.fact 63 (f := .glo "sifted") rfl)
    F_sifted := c.def_ 28 (d := d_sifted) rfl
    g_joined_rows := He.glo_ok X G (c.fact 64 (f := .glo "joined_rows") rfl)
    F_joined_rows := c.def_ 29 (d := d_joined_rows) rfl
    g_lot_rows := He.glo_ok X G (c.fact 65 (f := .glo "lot_rows") rfl)
    F_lot_rows := c.def_ 30 (d := d_lot_rows) rfl
    F_Lot___init__ := c.def_ 31 (d := d_Lot___init__) rfl
    g_core_rows := He.glo_ok X G (c.fact 66 (f := .glo "core_rows") rfl)
    F_core_rows := c.def_ 32 (d := d_core_rows) rfl
    g_lot_from := He.glo_ok X G (c.fact 67 (f := .glo "lot_from") rfl)
    F_lot_from := c.def_ 33 (d := d_lot_from) rfl
    F_Lot_core := c.def_ 34 (d := d_Lot_core) rfl
    g_plain_rows := He.glo_ok X G (c.fact 68 (f := .glo "plain_rows") rfl)
    F_plain_rows := c.def_ 35 (d := d_plain_rows) rfl
    g_still_rows := He.glo_ok X G (c.fact 69 (f := .glo "still_rows") rfl)
    F_still_rows := c.def_ 36 (d := d_still_rows) rfl
    g_comb_at := He.glo_ok X G (c.fact 70 (f := .glo "comb_at") rfl)
    F_comb_at := c.def_ 37 (d := d_comb_at) rfl
    g_against_rows := He.glo_ok X G (c.fact 71 (f := .glo "against_rows") rfl)
    F_against_rows := c.def_ 38 (d := d_against_rows) rfl
    g_met_rows := He.glo_ok X G (c.fact 72 (f := .glo "met_rows") rfl)
    F_met_rows := c.def_ 39 (d := d_met_rows) rfl
    F_Lot_still := c.def_ 40 (d := d_Lot_still) rfl
    F_Lot_against := c.def_ 41 (d := d_Lot_against) rfl
    g_need_like := He.glo_ok X G (c.fact 73 (f := .glo "need_like") rfl)
    F_need_like := c.def_ 42 (d := d_need_like) rfl
    g_joined := He.glo_ok X G (c.fact 74 (f := .glo "joined") rfl)
    F_joined := c.def_ 43 (d := d_joined) rfl
    g_met := He.glo_ok X G (c.fact 75 (f := .glo "met") rfl)
    F_met := c.def_ 44 (d := d_met) rfl
    F_Lot_layers := c.def_ 45 (d := d_Lot_layers) rfl
    g__law_told_lots := He.glo_ok X G (c.fact 76 (f := .glo "_law_told_lots") rfl)
    F__law_told_lots := c.def_ 46 (d := d__law_told_lots) rfl
    g_face_from := He.glo_ok X G (c.fact 77 (f := .glo "face_from") rfl)
    F_face_from := c.def_ 47 (d := d_face_from) rfl
    F_Lot_rows := c.def_ 48 (d := d_Lot_rows) rfl
    F_Lot_doublings := c.def_ 49 (d := d_Lot_doublings) rfl
    F_Lot_box := c.def_ 50 (d := d_Lot_box) rfl
    g__law_alike_right := He.glo_ok X G (c.fact 78 (f := .glo "_law_alike_right") rfl)
    F__law_alike_right := c.def_ 51 (d := d__law_alike_right) rfl
    g_apart_over := He.glo_ok X G (c.fact 79 (f := .glo "apart_over") rfl)
    F_apart_over := c.def_ 52 (d := d_apart_over) rfl
    F_Lot_makers := c.def_ 53 (d := d_Lot_makers) rfl
    g__law_makers_right := He.glo_ok X G (c.fact 80 (f := .glo "_law_makers_right") rfl)
    F__law_makers_right := c.def_ 54 (d := d__law_makers_right) rfl
    F_Lot_member := c.def_ 55 (d := d_Lot_member) rfl
    F_Lot_has := c.def_ 56 (d := d_Lot_has) rfl
    F_Lot_number_of := c.def_ 57 (d := d_Lot_number_of) rfl
    F_Lot_comb := c.def_ 58 (d := d_Lot_comb) rfl
    g__law_odd := He.glo_ok X G (c.fact 81 (f := .glo "_law_odd") rfl)
    F__law_odd := c.def_ 59 (d := d__law_odd) rfl
    g__law_faces_right := He.glo_ok X G (c.fact 82 (f := .glo "_law_faces_right") rfl)
    F__law_faces_right := c.def_ 60 (d := d__law_faces_right) rfl
    g_alike := He.glo_ok X G (c.fact 83 (f := .glo "alike") rfl)
    F_alike := c.def_ 61 (d := d_alike) rfl
    g__law_pairs_right := He.glo_ok X G (c.fact 84 (f := .glo "_law_pairs_right") rfl)
    F__law_pairs_right := c.def_ 62 (d := d__law_pairs_right) rfl
    g_law := He.glo_ok X G (c.fact 85 (f := .glo "law") rfl)
    F_law := c.def_ 63 (d := d_law) rfl
  }
end K19

set_option Elab.async false
set_option linter.all false
set_option maxRecDepth 100000
set_option maxHeartbeats 0
namespace K19
open PySem L2 MM
/-! ### 5. the walk: one theorem a def -/
section
variable {P : Program} {w : World} {K : PySem.W.Frag} {mg : Str → Option Value} {base : Heap} {cl : Str → Option Addr}
theorem ok__law_bag (T : Tx K mg cl) : Good P w K mg base cl 1 (He.ga K "_law_bag") f__law_bag 1 :=
  have sc := sc__law_bag
  good_of T.F__law_bag sc rfl rfl (fun _ _ _ _ _ _ us hl => match us, hl with | [_], _ => rfl) fun cdv A outer s H E hr =>
    (rss_one (rs_ret (re_own (rf_lst (ra_cons re_int (ra_cons re_int (ra_cons re_int (ra_cons (re_frz (rf_lc (own := [("cell", 1)]) rfl (by rfl) sc.nd (blkOk_by (by kernel_rfl)) (ri_any (re_sl (re_var 0) ro_none (ro_some re_int))) (fun _ _ _ _ _ => (rg_name 1 sc.nd)) (fun _ _ _ _ _ => rts_nil) (fun _ _ _ _ _ => (re_b1 c_abs (pe_callB callr_any (by rfl) T.b_abs PyProof.Rows.boot_abs (pa_cons peW pa_nil)) (re_var 1))) (by decide))) ra_nil))))))))
theorem ok__law_take (T : Tx K mg cl) : Good P w K mg base cl 1 (He.ga K "_law_take") f__law_take 2 :=
  have sc := sc__law_take
  good_of T.F__law_take sc rfl rfl (fun _ _ _ _ _ _ us hl => match us, hl with | [_, _], _ => rfl) fun cdv A outer s H E hr =>
    (rss_cons (rs_if (rt_cmp (os_eq (room64 hr)) (re_ix (room64 hr) (re_var 0) re_int) re_int (nomark _)) (rss_cons (rs_set 4 sc.nd re_int) (rss_cons (rs_if (rt_cmp os_lt (re_ix (room64 hr) (re_var 0) re_int) (re_b1 c_len (pe_callB callr_any (by rfl) T.b_len boot_len (pa_cons peW pa_nil)) (re_ix (room64 hr) (re_var 0) re_int)) (nomark _)) (rss_one (rs_set 4 sc.nd (re_ix (room64 hr) (re_ix (room64 hr) (re_var 0) re_int) (re_ix (room64 hr) (re_var 0) re_int)))) rss_nil) (rss_cons (rs_augL (re_var 0) re_int re_int) (rss_cons (rs_if (rt_cmp os_ge (re_var 4) re_int (nomark _)) (rss_one (rs_subL (re_var 4) (re_var 0) re_int)) rss_nil) (rss_one (rs_subL (re_bin os_mod (re_bin os_add (re_bin os_add (re_bin os_mul (re_ix (room64 hr) (re_var 0) re_int) re_int) (re_bin os_mod (re_var 4) re_int)) (re_bin os_mul re_int (re_ix (room64 hr) (re_var 0) re_int))) re_int) (re_var 0) re_int)))))) rss_nil) (rss_cons (rs_if (rt_cmp os_gt (re_ix (room64 hr) (re_var 0) re_int) re_int (nomark _)) (rss_cons (rs_set 5 sc.nd (re_bin os_mod (re_ix (room64 hr) (re_var 0) re_int) (re_var 1))) (rss_cons (rs_subL (re_bin os_fdiv (re_ix (room64 hr) (re_var 0) re_int) (re_var 1)) (re_var 0) re_int) (rss_one (rs_ret (re_var 5))))) rss_nil) (rss_cons (rs_set 2 sc.nd (re_bin os_mod (re_bin os_mul (re_bin os_add (re_ix (room64 hr) (re_var 0) re_int) re_int) re_int) re_int)) (rss_cons (rs_set 3 sc.nd (re_bin os_mod (re_bin os_mul (re_bin os_mod (re_bin os_mul (re_var 2) (re_var 2)) re_int) re_int) re_int)) (rss_cons (rs_if (rt_cmp os_gt (re_var 1) re_int (nomark _)) (rss_one (rs_ret (re_bin os_mod (re_bin os_add (re_bin os_mul (re_var 3) re_int) (re_var 2)) (re_var 1)))) rss_nil) (rss_one (rs_ret (re_bin os_mod (re_bin os_fdiv (re_var 3) re_int) (re_var 1)))))))))
theorem ok__law_box (T : Tx K mg cl) : Good P w K mg base cl 2 (He.ga K "_law_box") f__law_box 2 :=
  have sc := sc__law_box
  good_of T.F__law_box sc rfl rfl (fun _ _ _ _ _ _ us hl => match us, hl with | [_, _], _ => rfl) fun cdv A outer s H E hr =>
    (rss_cons (rs_set 2 sc.nd (re_bin os_add re_int (re_callG (ok__law_take T) (hr.mono (by decide)) T.g__law_take (ra_cons (re_var 0) (ra_cons (re_var 1) ra_nil)) (al_cons (al_cons al_nil))))) (rss_one (rs_ret (re_tup (ra_cons (re_var 2) (ra_cons (re_ix (room64 hr) (re_frz (rf_lst (ra_cons (re_var 2) (ra_cons (re_var 2) (ra_cons (re_bin os_add re_int (re_callG (ok__law_take T) (hr.mono (by decide)) T.g__law_take (ra_cons (re_var 0) (ra_cons (re_var 1) ra_nil)) (al_cons (al_cons al_nil)))) ra_nil))))) (re_callG (ok__law_take T) (hr.mono (by decide)) T.g__law_take (ra_cons (re_var 0) (ra_cons re_int ra_nil)) (al_cons (al_cons al_nil)))) ra_nil))))))
theorem ok__law_face (T : Tx K mg cl) : Good P w K mg base cl 2 (He.ga K "_law_face") f__law_face 2 :=
  have sc := sc__law_face
  good_of T.F__law_face sc rfl rfl (fun _ _ _ _ _ _ us hl => match us, hl with | [_, _], _ => rfl) fun cdv A outer s H E hr =>
    (rss_cons (rs_set 2 sc.nd (re_ix (room64 hr) (re_frz (rf_lst (ra_cons re_int (ra_cons re_int (ra_cons re_int (ra_cons re_int (ra_cons re_int (ra_cons re_int ra_nil)))))))) (re_callG (ok__law_take T) (hr.mono (by decide)) T.g__law_take (ra_cons (re_var 0) (ra_cons re_int ra_nil)) (al_cons (al_cons al_nil))))) (rss_cons (rs_setLc 3 (own := [("y", 5)]) rfl (by rfl) sc.nd (by rfl) (by rfl) (by rfl) (blkOk_by (by kernel_rfl)) (ri_range1 T.b_range (re_ix (room64 hr) (re_var 1) re_int)) (fun _ _ _ _ _ => (rg_name 5 sc.nd)) (fun _ _ _ _ _ => rts_nil) (fun _ _ _ _ _ => (re_join (pe_m1 PySem.F.slot_str_join PySem.F.type_str_join mtr_any peW peW) re_str (re_frz (rf_lc (own := [("x", 6)]) rfl (by rfl) sc.nd (blkOk_by (by kernel_rfl)) (ri_range1 T.b_range (re_ix (room64 hr) (re_var 1) re_int)) (fun _ _ _ _ _ => (rg_name 6 sc.nd)) (fun _ _ _ _ _ => rts_nil) (fun _ _ _ _ _ => (re_ix (room64 hr) re_str (re_b1 c_int (pe_callTy callr_any (by rfl) T.b_int PyProof.Rows.boot_int (pa_cons peW pa_nil)) (re_cmp (os_eq (room64 hr)) (re_callG (ok__law_take T) (hr.mono (by decide)) T.g__law_take (ra_cons (re_var 0) (ra_cons (re_var 2) ra_nil)) (al_cons (al_cons al_nil))) re_int (nomark _))))) (by decide))))) (by decide)) (rss_cons (rs_set 4 sc.nd (re_tup (ra_cons (re_callG (ok__law_take T) (hr.mono (by decide)) T.g__law_take (ra_cons (re_var 0) (ra_cons (re_ix (room64 hr) (re_var 1) re_int) ra_nil)) (al_cons (al_cons al_nil))) (ra_cons (re_callG (ok__law_take T) (hr.mono (by decide)) T.g__law_take (ra_cons (re_var 0) (ra_cons (re_ix (room64 hr) (re_var 1) re_int) ra_nil)) (al_cons (al_cons al_nil))) ra_nil)))) (rss_cons (rs_if (rt_cmp (os_eq (room64 hr)) (re_var 2) re_int (nomark _)) (rss_one (rs_setLc 3 (own := [("y", 5)]) rfl (by rfl) sc.nd (by rfl) (by rfl) (by rfl) (blkOk_by (by kernel_rfl)) (ri_range1 T.b_range (re_ix (room64 hr) (re_var 1) re_int)) (fun _ _ _ _ _ => (rg_name 5 sc.nd)) (fun _ _ _ _ _ => rts_nil) (fun _ _ _ _ _ => (re_join (pe_m1 PySem.F.slot_str_join PySem.F.type_str_join mtr_any peW peW) re_str (re_frz (rf_lc (own := [("x", 6)]) rfl (by rfl) sc.nd (blkOk_by (by kernel_rfl)) (ri_range1 T.b_range (re_ix (room64 hr) (re_var 1) re_int)) (fun _ _ _ _ _ => (rg_name 6 sc.nd)) (fun _ _ _ _ _ => rts_nil) (fun _ _ _ _ _ => (re_ix (room64 hr) re_str (re_b1 c_int (pe_callTy callr_any (by rfl) T.b_int PyProof.Rows.boot_int (pa_cons peW pa_nil)) (re_cmp (os_eq (room64 hr)) (re_tup (ra_cons (re_var 6) (ra_cons (re_var 5) ra_nil))) (re_var 4) (nomark _))))) (by decide))))) (by decide))) rss_nil) (rss_cons (rs_if (rt_rw (rw_and (rt_cmp (os_eq (room64 hr)) (re_var 2) re_int (nomark _)) (rw_and1 (rt_cmp (os_eq (room64 hr)) (re_ix (room64 hr) (re_var 4) re_int) re_int (nomark _))))) (rss_one (rs_set 3 sc.nd (re_bin os_mul (re_frz (rf_lst (ra_cons (re_bin os_mul re_str (re_ix (room64 hr) (re_var 1) re_int)) ra_nil))) (re_ix (room64 hr) (re_var 1) re_int)))) rss_nil) (rss_one (rs_ret (re_b1 c_tuple (pe_callTy callr_any (by rfl) T.b_tuple PyProof.Rows.boot_tuple (pa_cons peW pa_nil)) (re_var 3)))))))))
theorem ok__law_turnings (T : Tx K mg cl) : Good P w K mg base cl 1 (He.ga K "_law_turnings") f__law_turnings 1 :=
  have sc := sc__law_turnings
  good_of T.F__law_turnings sc rfl rfl (fun _ _ _ _ _ _ us hl => match us, hl with | [_], _ => rfl) fun cdv A outer s H E hr =>
    (rss_cons (rs_if (rt_cmp (os_eq (room64 hr)) (re_ix (room64 hr) (re_var 0) re_int) (re_ix (room64 hr) (re_var 0) re_int) (nomark _)) (rss_one (rs_ret (re_frz (rf_lst (ra_cons re_str (ra_cons re_str (ra_cons re_str (ra_cons re_str (ra_cons re_str (ra_cons re_str (ra_cons re_str (ra_cons re_str ra_nil)))))))))))) rss_nil) (rss_one (rs_ret (re_frz (rf_lst (ra_cons re_str (ra_cons re_str (ra_cons re_str (ra_cons re_str ra_nil)))))))))
theorem ok__law_spun (T : Tx K mg cl) : Good P w K mg base cl 1 (He.ga K "_law_spun") f__law_spun 2 :=
  have sc := sc__law_spun
  good_of T.F__law_spun sc rfl rfl (fun _ _ _ _ _ _ us hl => match us, hl with | [_, _], _ => rfl) fun cdv A outer s H E hr =>
    (rss_cons (rs_set 2 sc.nd (re_own (rf_lst ra_nil))) (rss_cons (rs_for PassesOwn.never rfl (ri_range1 T.b_range (re_b1 c_len (pe_callB callr_any (by rfl) T.b_len boot_len (pa_cons peW pa_nil)) (re_var 0))) (rg_name 3 sc.nd) (rss_one (rs_expr (re_mut m_extend (pe_bm PySem.F.plainAttrs_list PySem.F.slot_list_extend PySem.F.type_list_extend mtr_any peW paW) (re_var 2) (ra_cons (re_frz (rf_lc (own := [("x", 7)]) rfl (by rfl) sc.nd (blkOk_by (by kernel_rfl)) (ri_range1 T.b_range (re_b1 c_len (pe_callB callr_any (by rfl) T.b_len boot_len (pa_cons peW pa_nil)) (re_ix (room64 hr) (re_var 0) (re_var 3)))) (fun _ _ _ _ _ => (rg_name 7 sc.nd)) (fun _ _ _ _ _ => (rts_one (rt_cmp (os_eq (room64 hr)) (re_ix (room64 hr) (re_ix (room64 hr) (re_var 0) (re_var 3)) (re_var 7)) re_str (nomark _)))) (fun _ _ _ _ _ => (re_tup (ra_cons (re_var 7) (ra_cons (re_var 3) ra_nil)))) (by decide))) ra_nil))))) (rss_frz (i := 2) (rss_cons (rs_asg (re_tup (ra_cons (re_b1 c_len (pe_callB callr_any (by rfl) T.b_len boot_len (pa_cons peW pa_nil)) (re_ix (room64 hr) (re_var 0) re_int)) (ra_cons (re_b1 c_len (pe_callB callr_any (by rfl) T.b_len boot_len (pa_cons peW pa_nil)) (re_var 0)) ra_nil))) (rg_tup (rgs_cons (rg_name 4 sc.nd) (rgs_cons (rg_name 5 sc.nd) rgs_nil)) (gl_cons (gl_cons gl_nil)))) (rss_cons (rs_if (rt_cmp (os_eq (room64 hr)) (re_ix (room64 hr) (re_var 1) re_int) re_str (nomark _)) (rss_one (rs_set 2 sc.nd (re_frz (rf_lc (own := [("x", 7), ("y", 3)]) rfl (by rfl) sc.nd (blkOk_by (by kernel_rfl)) (ri_any (re_var 2)) (fun _ _ _ _ _ => (rg_tup (rgs_cons (rg_name 7 sc.nd) (rgs_cons (rg_name 3 sc.nd) rgs_nil)) (gl_cons (gl_cons gl_nil)))) (fun _ _ _ _ _ => rts_nil) (fun _ _ _ _ _ => (re_tup (ra_cons (re_bin os_sub (re_bin os_sub (re_var 4) re_int) (re_var 7)) (ra_cons (re_var 3) ra_nil)))) (by decide))))) rss_nil) (rss_cons (rs_for PassesOwn.never rfl (ri_range1 T.b_range (re_sindex (pe_m1 PySem.F.slot_str_index PySem.F.type_str_index mtr_any peW peW) re_str (re_ix (room64 hr) (re_var 1) re_int))) (rg_name 6 sc.nd) (rss_cons (rs_set 2 sc.nd (re_frz (rf_lc (own := [("x", 7), ("y", 3)]) rfl (by rfl) sc.nd (blkOk_by (by kernel_rfl)) (ri_any (re_var 2)) (fun _ _ _ _ _ => (rg_tup (rgs_cons (rg_name 7 sc.nd) (rgs_cons (rg_name 3 sc.nd) rgs_nil)) (gl_cons (gl_cons gl_nil)))) (fun _ _ _ _ _ => rts_nil) (fun _ _ _ _ _ => (re_tup (ra_cons (re_bin os_sub (re_bin os_sub (re_var 5) re_int) (re_var 3)) (ra_cons (re_var 7) ra_nil)))) (by decide)))) (rss_one (rs_asg (re_tup (ra_cons (re_var 5) (ra_cons (re_var 4) ra_nil))) (rg_tup (rgs_cons (rg_name 4 sc.nd) (rgs_cons (rg_name 5 sc.nd) rgs_nil)) (gl_cons (gl_cons gl_nil))))))) (rss_one (rs_ret (re_b1 c_tuple (pe_callTy callr_any (by rfl) T.b_tuple PyProof.Rows.boot_tuple (pa_cons peW pa_nil)) (re_frz (rf_lc (own := [("y", 3)]) rfl (by rfl) sc.nd (blkOk_by (by kernel_rfl)) (ri_range1 T.b_range (re_var 5)) (fun _ _ _ _ _ => (rg_name 3 sc.nd)) (fun _ _ _ _ _ => rts_nil) (fun _ _ _ _ _ => (re_join (pe_m1 PySem.F.slot_str_join PySem.F.type_str_join mtr_any peW peW) re_str (re_frz (rf_lc (own := [("x", 7)]) rfl (by rfl) sc.nd (blkOk_by (by kernel_rfl)) (ri_range1 T.b_range (re_var 4)) (fun _ _ _ _ _ => (rg_name 7 sc.nd)) (fun _ _ _ _ _ => rts_nil) (fun _ _ _ _ _ => (re_ix (room64 hr) re_str (re_b1 c_int (pe_callTy callr_any (by rfl) T.b_int PyProof.Rows.boot_int (pa_cons peW pa_nil)) (re_cmp (os_in (room65 hr)) (re_tup (ra_cons (re_var 7) (ra_cons (re_var 3) ra_nil))) (re_var 2) (by rfl))))) (by decide))))) (by decide))))))))))))
theorem ok__law_images (T : Tx K mg cl) : Good P w K mg base cl 2 (He.ga K "_law_images") f__law_images 1 :=
  have sc := sc__law_images
  good_of T.F__law_images sc rfl rfl (fun _ _ _ _ _ _ us hl => match us, hl with | [_], _ => rfl) fun cdv A outer s H E hr =>
    (rss_one (rs_ret (re_frz (rf_lc (own := [("turning", 1)]) rfl (by rfl) sc.nd (blkOk_by (by kernel_rfl)) (ri_any (re_callG (ok__law_turnings T) (hr.mono (by decide)) T.g__law_turnings (ra_cons (re_tup (ra_cons (re_b1 c_len (pe_callB callr_any (by rfl) T.b_len boot_len (pa_cons peW pa_nil)) (re_ix (room64 hr) (re_var 0) re_int)) (ra_cons (re_b1 c_len (pe_callB callr_any (by rfl) T.b_len boot_len (pa_cons peW pa_nil)) (re_var 0)) ra_nil))) ra_nil) (al_cons al_nil))) (fun _ _ _ _ _ => (rg_name 1 sc.nd)) (fun _ _ _ _ _ => rts_nil) (fun _ _ _ _ _ => (re_callG (ok__law_spun T) (hr.mono (by decide)) T.g__law_spun (ra_cons (re_var 0) (ra_cons (re_var 1) ra_nil)) (al_cons (al_cons al_nil)))) (by decide)))))
theorem ok__law_over (T : Tx K mg cl) : Good P w K mg base cl 1 (He.ga K "_law_over") f__law_over 2 :=
  have sc := sc__law_over
  good_of T.F__law_over sc rfl rfl (fun _ _ _ _ _ _ us hl => match us, hl with | [_, _], _ => rfl) fun cdv A outer s H E hr =>
    (rss_cons (rs_set 2 sc.nd (re_own (rf_lst ra_nil))) (rss_cons (rs_for PassesOwn.never rfl (ri_range1 T.b_range (re_b1 c_len (pe_callB callr_any (by rfl) T.b_len boot_len (pa_cons peW pa_nil)) (re_var 0))) (rg_name 3 sc.nd) (rss_one (rs_expr (re_mut m_append (pe_bm PySem.F.plainAttrs_list PySem.F.slot_list_append PySem.F.type_list_append mtr_any peW paW) (re_var 2) (ra_cons (re_join (pe_m1 PySem.F.slot_str_join PySem.F.type_str_join mtr_any peW peW) re_str (re_frz (rf_lc (own := [("x", 4)]) rfl (by rfl) sc.nd (blkOk_by (by kernel_rfl)) (ri_range1 T.b_range (re_b1 c_len (pe_callB callr_any (by rfl) T.b_len boot_len (pa_cons peW pa_nil)) (re_ix (room64 hr) (re_var 0) (re_var 3)))) (fun _ _ _ _ _ => (rg_name 4 sc.nd)) (fun _ _ _ _ _ => rts_nil) (fun _ _ _ _ _ => (re_ix (room64 hr) re_str (re_b1 c_int (pe_callTy callr_any (by rfl) T.b_int PyProof.Rows.boot_int (pa_cons peW pa_nil)) (re_cmp (os_ne (room64 hr)) (re_ix (room64 hr) (re_ix (room64 hr) (re_var 0) (re_var 3)) (re_var 4)) (re_ix (room64 hr) (re_ix (room64 hr) (re_var 1) (re_var 3)) (re_var 4)) (nomark _))))) (by decide)))) ra_nil))))) (rss_one (rs_ret (re_b1 c_tuple (pe_callTy callr_any (by rfl) T.b_tuple PyProof.Rows.boot_tuple (pa_cons peW pa_nil)) (re_var 2))))))
theorem ok__law_whole (T : Tx K mg cl) : Good P w K mg base cl 1 (He.ga K "_law_whole") f__law_whole 1 :=
  have sc := sc__law_whole
  good_of T.F__law_whole sc rfl rfl (fun _ _ _ _ _ _ us hl => match us, hl with | [_], _ => rfl) fun cdv A outer s H E hr =>
    (rss_cons (rs_set 1 sc.nd (re_own (rf_lst ra_nil))) (rss_cons (rs_for PassesOwn.never rfl (ri_range1 T.b_range (re_b1 c_len (pe_callB callr_any (by rfl) T.b_len boot_len (pa_cons peW pa_nil)) (re_ix (room64 hr) (re_var 0) re_int))) (rg_name 2 sc.nd) (rss_one (rs_expr (re_mut m_append (pe_bm PySem.F.plainAttrs_list PySem.F.slot_list_append PySem.F.type_list_append mtr_any peW paW) (re_var 1) (ra_cons (re_join (pe_m1 PySem.F.slot_str_join PySem.F.type_str_join mtr_any peW peW) re_str (re_frz (rf_lc (own := [("x", 3)]) rfl (by rfl) sc.nd (blkOk_by (by kernel_rfl)) (ri_range1 T.b_range (re_b1 c_len (pe_callB callr_any (by rfl) T.b_len boot_len (pa_cons peW pa_nil)) (re_ix (room64 hr) (re_ix (room64 hr) (re_var 0) re_int) (re_var 2)))) (fun _ _ _ _ _ => (rg_name 3 sc.nd)) (fun _ _ _ _ _ => rts_nil) (fun _ _ _ _ _ => (re_ix (room64 hr) re_str (re_b1 c_int (pe_callTy callr_any (by rfl) T.b_int PyProof.Rows.boot_int (pa_cons peW pa_nil)) (re_cmp (os_in (room65 hr)) re_str (re_frz (rf_lc (own := [("face", 4)]) rfl (by rfl) sc.nd (blkOk_by (by kernel_rfl)) (ri_any (re_var 0)) (fun _ _ _ _ _ => (rg_name 4 sc.nd)) (fun _ _ _ _ _ => rts_nil) (fun _ _ _ _ _ => (re_ix (room64 hr) (re_ix (room64 hr) (re_var 4) (re_var 2)) (re_var 3))) (by decide))) (by rfl))))) (by decide)))) ra_nil))))) (rss_one (rs_ret (re_b1 c_tuple (pe_callTy callr_any (by rfl) T.b_tuple PyProof.Rows.boot_tuple (pa_cons peW pa_nil)) (re_var 1))))))
theorem ok__law_seeds (T : Tx K mg cl) : Good P w K mg base cl 3 (He.ga K "_law_seeds") f__law_seeds 3 :=
  have sc := sc__law_seeds
  good_of T.F__law_seeds sc rfl rfl (fun _ _ _ _ _ _ us hl => match us, hl with | [_, _, _], _ => rfl) fun cdv A outer s H E hr =>
    (rss_cons (rs_set 3 sc.nd (re_own (rf_lst ra_nil))) (rss_cons (rs_for PassesOwn.never rfl (ri_range1 T.b_range (re_callG (ok__law_take T) (hr.mono (by decide)) T.g__law_take (ra_cons (re_var 0) (ra_cons (re_bin os_add (re_var 2) re_int) ra_nil)) (al_cons (al_cons al_nil)))) (rg_name 4 sc.nd) (rss_cons (rs_set 5 sc.nd (re_callG (ok__law_take T) (hr.mono (by decide)) T.g__law_take (ra_cons (re_var 0) (ra_cons re_int ra_nil)) (al_cons (al_cons al_nil)))) (rss_cons (rs_set 6 sc.nd (re_callG (ok__law_face T) (hr.mono (by decide)) T.g__law_face (ra_cons (re_var 0) (ra_cons (re_var 1) ra_nil)) (al_cons (al_cons al_nil)))) (rss_cons (rs_set 7 sc.nd (re_callG (ok__law_images T) (hr.mono (by decide)) T.g__law_images (ra_cons (re_var 6) ra_nil) (al_cons al_nil))) (rss_cons (rs_if (rt_cmp (os_eq (room64 hr)) (re_var 5) re_int (nomark _)) (rss_one (rs_set 6 sc.nd (re_callG (ok__law_over T) (hr.mono (by decide)) T.g__law_over (ra_cons (re_var 6) (ra_cons (re_var 6) ra_nil)) (al_cons (al_cons al_nil))))) (rss_one (rs_if (rt_cmp (os_eq (room64 hr)) (re_var 5) re_int (nomark _)) (rss_one (rs_set 6 sc.nd (re_callG (ok__law_over T) (hr.mono (by decide)) T.g__law_over (ra_cons (re_var 6) (ra_cons (re_ix (room64 hr) (re_var 7) (re_callG (ok__law_take T) (hr.mono (by decide)) T.g__law_take (ra_cons (re_var 0) (ra_cons (re_b1 c_len (pe_callB callr_any (by rfl) T.b_len boot_len (pa_cons peW pa_nil)) (re_var 7)) ra_nil)) (al_cons (al_cons al_nil)))) ra_nil)) (al_cons (al_cons al_nil))))) (rss_one (rs_if (rt_cmp (os_eq (room64 hr)) (re_var 5) re_int (nomark _)) (rss_one (rs_set 6 sc.nd (re_callG (ok__law_whole T) (hr.mono (by decide)) T.g__law_whole (ra_cons (re_var 7) ra_nil) (al_cons al_nil)))) (rss_one (rs_if (rt_rw (rw_and (rt_cmp (os_eq (room64 hr)) (re_var 5) re_int (nomark _)) (rw_and1 (rt_cmp (os_ne (room64 hr)) (re_var 3) (re_frz (rf_lst ra_nil)) (nomark _))))) (rss_one (rs_set 6 sc.nd (re_ix (room64 hr) (re_callG (ok__law_images T) (hr.mono (by decide)) T.g__law_images (ra_cons (re_ix (room64 hr) (re_var 3) (re_neg re_int)) ra_nil) (al_cons al_nil)) (re_callG (ok__law_take T) (hr.mono (by decide)) T.g__law_take (ra_cons (re_var 0) (ra_cons (re_b1 c_len (pe_callB callr_any (by rfl) T.b_len boot_len (pa_cons peW pa_nil)) (re_var 7)) ra_nil)) (al_cons (al_cons al_nil)))))) rss_nil))))))) (rss_one (rs_expr (re_mut m_append (pe_bm PySem.F.plainAttrs_list PySem.F.slot_list_append PySem.F.type_list_append mtr_any peW paW) (re_var 3) (ra_cons (re_var 6) ra_nil))))))))) (rss_one (rs_ret (re_freeze (re_var 3))))))
theorem ok_is_whole (T : Tx K mg cl) : Good P w K mg base cl 1 (He.ga K "is_whole") f_is_whole 1 :=
  have sc := sc_is_whole
  good_of T.F_is_whole sc rfl rfl (fun _ _ _ _ _ _ us hl => match us, hl with | [_], _ => rfl) fun cdv A outer s H E hr =>
    (rss_one (rs_ret (re_and (re_isB (T := "int") (pe_callB callr_any (by rfl) T.b_isinstance PyProof.Rows.boot_isinstance (pa_cons peW (pa_cons (pe_bltn (by rfl) T.b_int PyProof.Rows.boot_int rfl) pa_nil))) (by decide) (re_var 0)) (re_one (re_not (re_isB (T := "bool") (pe_callB callr_any (by rfl) T.b_isinstance PyProof.Rows.boot_isinstance (pa_cons peW (pa_cons (pe_bltn (by rfl) T.b_bool PyProof.Rows.boot_bool rfl) pa_nil))) (by decide) (re_var 0)))))))
theorem ok_is_side (T : Tx K mg cl) : Good P w K mg base cl 2 (He.ga K "is_side") f_is_side 1 :=
  have sc := sc_is_side
  good_of T.F_is_side sc rfl rfl (fun _ _ _ _ _ _ us hl => match us, hl with | [_], _ => rfl) fun cdv A outer s H E hr =>
    (rss_one (rs_ret (re_and (re_callG (ok_is_whole T) (hr.mono (by decide)) T.g_is_whole (ra_cons (re_var 0) ra_nil) (al_cons al_nil)) (re_one (re_chain os_le os_le re_int (re_var 0) (re_glob T.g_MOST_SIDE))))))
theorem ok_is_box (T : Tx K mg cl) : Good P w K mg base cl 3 (He.ga K "is_box") f_is_box 1 :=
  have sc := sc_is_box
  good_of T.F_is_box sc rfl rfl (fun _ _ _ _ _ _ us hl => match us, hl with | [_], _ => rfl) fun cdv A outer s H E hr =>
    (rss_one (rs_ret (re_and (re_isB (T := "tuple") (pe_callB callr_any (by rfl) T.b_isinstance PyProof.Rows.boot_isinstance (pa_cons peW (pa_cons (pe_bltn (by rfl) T.b_tuple PyProof.Rows.boot_tuple rfl) pa_nil))) (by decide) (re_var 0)) (re_and (re_cmp (os_eq (room64 hr)) (re_b1 c_len (pe_callB callr_any (by rfl) T.b_len boot_len (pa_cons peW pa_nil)) (re_var 0)) re_int (nomark _)) (re_and (re_callG (ok_is_side T) (hr.mono (by decide)) T.g_is_side (ra_cons (re_ix (room64 hr) (re_var 0) re_int) ra_nil) (al_cons al_nil)) (re_one (re_callG (ok_is_side T) (hr.mono (by decide)) T.g_is_side (ra_cons (re_ix (room64 hr) (re_var 0) re_int) ra_nil) (al_cons al_nil))))))))
theorem ok_is_face_row (T : Tx K mg cl) : Good P w K mg base cl 1 (He.ga K "is_face_row") f_is_face_row 1 :=
  have sc := sc_is_face_row
  good_of T.F_is_face_row sc rfl rfl (fun _ _ _ _ _ _ us hl => match us, hl with | [_], _ => rfl) fun cdv A outer s H E hr =>
    (rss_cons (rs_if (rt_rw (rw_or (rt_not (rt_of (re_isB (T := "str") (pe_callB callr_any (by rfl) T.b_isinstance PyProof.Rows.boot_isinstance (pa_cons peW (pa_cons (pe_bltn (by rfl) T.b_str PyProof.Rows.boot_str rfl) pa_nil))) (by decide) (re_var 0)))) (rw_or1 (rt_not (rt_chain os_le os_le re_int (re_b1 c_len (pe_callB callr_any (by rfl) T.b_len boot_len (pa_cons peW pa_nil)) (re_var 0)) (re_glob T.g_MOST_SIDE)))))) (rss_one (rs_ret re_bl)) rss_nil) (rss_one (rs_ret (re_b1 (c_all) (pe_callB callr_any (by rfl) T.b_all PyProof.Rows.boot_all (pa_cons peW pa_nil)) (re_frz (rf_lc (own := [("sign", 1)]) rfl (by rfl) sc.nd (blkOk_by (by kernel_rfl)) (ri_any (re_var 0)) (fun _ _ _ _ _ => (rg_name 1 sc.nd)) (fun _ _ _ _ _ => rts_nil) (fun _ _ _ _ _ => (re_or (re_cmp (os_eq (room64 hr)) (re_var 1) (re_glob T.g_UP) (nomark _)) (re_one (re_cmp (os_eq (room64 hr)) (re_var 1) (re_glob T.g_FLAT) (nomark _))))) (by decide)))))))
theorem ok_is_face (T : Tx K mg cl) : Good P w K mg base cl 2 (He.ga K "is_face") f_is_face 1 :=
  have sc := sc_is_face
  good_of T.F_is_face sc rfl rfl (fun _ _ _ _ _ _ us hl => match us, hl with | [_], _ => rfl) fun cdv A outer s H E hr =>
    (rss_cons (rs_if (rt_rw (rw_or (rt_not (rt_of (re_isB (T := "tuple") (pe_callB callr_any (by rfl) T.b_isinstance PyProof.Rows.boot_isinstance (pa_cons peW (pa_cons (pe_bltn (by rfl) T.b_tuple PyProof.Rows.boot_tuple rfl) pa_nil))) (by decide) (re_var 0)))) (rw_or1 (rt_not (rt_chain os_le os_le re_int (re_b1 c_len (pe_callB callr_any (by rfl) T.b_len boot_len (pa_cons peW pa_nil)) (re_var 0)) (re_glob T.g_MOST_SIDE)))))) (rss_one (rs_ret re_bl)) rss_nil) (rss_one (rs_ret (re_and (re_b1 (c_all) (pe_callB callr_any (by rfl) T.b_all PyProof.Rows.boot_all (pa_cons peW pa_nil)) (re_frz (rf_lc (own := [("row", 1)]) rfl (by rfl) sc.nd (blkOk_by (by kernel_rfl)) (ri_any (re_var 0)) (fun _ _ _ _ _ => (rg_name 1 sc.nd)) (fun _ _ _ _ _ => rts_nil) (fun _ _ _ _ _ => (re_callG (ok_is_face_row T) (hr.mono (by decide)) T.g_is_face_row (ra_cons (re_var 1) ra_nil) (al_cons al_nil))) (by decide)))) (re_one (re_b1 (c_all) (pe_callB callr_any (by rfl) T.b_all PyProof.Rows.boot_all (pa_cons peW pa_nil)) (re_frz (rf_lc (own := [("row", 1)]) rfl (by rfl) sc.nd (blkOk_by (by kernel_rfl)) (ri_any (re_var 0)) (fun _ _ _ _ _ => (rg_name 1 sc.nd)) (fun _ _ _ _ _ => rts_nil) (fun _ _ _ _ _ => (re_cmp (os_eq (room64 hr)) (re_b1 c_len (pe_callB callr_any (by rfl) T.b_len boot_len (pa_cons peW pa_nil)) (re_var 1)) (re_b1 c_len (pe_callB callr_any (by rfl) T.b_len boot_len (pa_cons peW pa_nil)) (re_ix (room64 hr) (re_var 0) re_int)) (nomark _))) (by decide)))))))))
theorem ok_is_face_of (T : Tx K mg cl) : Good P w K mg base cl 3 (He.ga K "is_face_of") f_is_face_of 2 :=
  have sc := sc_is_face_of
  good_of T.F_is_face_of sc rfl rfl (fun _ _ _ _ _ _ us hl => match us, hl with | [_, _], _ => rfl) fun cdv A outer s H E hr =>
    (rss_one (rs_ret (re_and (re_callG (ok_is_face T) (hr.mono (by decide)) T.g_is_face (ra_cons (re_var 1) ra_nil) (al_cons al_nil)) (re_one (re_cmp (os_eq (room64 hr)) (re_tup (ra_cons (re_b1 c_len (pe_callB callr_any (by rfl) T.b_len boot_len (pa_cons peW pa_nil)) (re_ix (room64 hr) (re_var 1) re_int)) (ra_cons (re_b1 c_len (pe_callB callr_any (by rfl) T.b_len boot_len (pa_cons peW pa_nil)) (re_var 1)) ra_nil))) (re_var 0) (nomark _))))))
theorem ok_are_box_faces (T : Tx K mg cl) : Good P w K mg base cl 4 (He.ga K "are_box_faces") f_are_box_faces 2 :=
  have sc := sc_are_box_faces
  good_of T.F_are_box_faces sc rfl rfl (fun _ _ _ _ _ _ us hl => match us, hl with | [_, _], _ => rfl) fun cdv A outer s H E hr =>
    (rss_cons (rs_if (rt_rw (rw_or (rt_not (rt_of (re_isB (T := "list") (pe_callB callr_any (by rfl) T.b_isinstance PyProof.Rows.boot_isinstance (pa_cons peW (pa_cons (pe_bltn (by rfl) T.b_list PyProof.Rows.boot_list rfl) pa_nil))) (by decide) (re_var 1)))) (rw_or1 (rt_cmp os_gt (re_b1 c_len (pe_callB callr_any (by rfl) T.b_len boot_len (pa_cons peW pa_nil)) (re_var 1)) (re_glob T.g_MOST_FACES) (nomark _))))) (rss_one (rs_ret re_bl)) rss_nil) (rss_one (rs_ret (re_b1 (c_all) (pe_callB callr_any (by rfl) T.b_all PyProof.Rows.boot_all (pa_cons peW pa_nil)) (re_frz (rf_orF (rf_lc (own := [("face", 2)]) rfl (by rfl) sc.nd (blkOk_by (by kernel_rfl)) (ri_any (re_var 1)) (fun _ _ _ _ _ => (rg_name 2 sc.nd)) (fun _ _ _ _ _ => rts_nil) (fun _ _ _ _ _ => (re_callG (ok_is_face_of T) (hr.mono (by decide)) T.g_is_face_of (ra_cons (re_var 0) (ra_cons (re_var 2) ra_nil)) (al_cons (al_cons al_nil)))) (by decide)) (rf_lcC (own := [("face", 2)]) rfl (by rfl) sc.nd (blkOk_by (by kernel_rfl)) (ri_ptr (re_var 1)) (fun _ _ _ _ _ => (rg_name 2 sc.nd)) (fun _ _ _ _ _ => rts_nil) (fun _ _ _ _ _ => (re_callG (ok_is_face_of T) (hr.mono (by decide)) T.g_is_face_of (ra_cons (re_var 0) (ra_cons (re_var 2) ra_nil)) (al_cons (al_cons al_nil)))) (by decide))))))))
theorem ok_bits_of (T : Tx K mg cl) : Good P w K mg base cl 1 (He.ga K "bits_of") f_bits_of 1 :=
  have sc := sc_bits_of
  good_of T.F_bits_of sc rfl rfl (fun _ _ _ _ _ _ us hl => match us, hl with | [_], _ => rfl) fun cdv A outer s H E hr =>
    (rss_cons (rs_set 1 sc.nd re_int) (rss_cons (rs_for PassesOwn.never rfl (ri_any (re_var 0)) (rg_name 2 sc.nd) (rss_one (rs_for PassesOwn.never rfl (ri_any (re_var 2)) (rg_name 3 sc.nd) (rss_one (rs_set 1 sc.nd (re_bin os_add (re_bin os_mul re_int (re_var 1)) (re_b1 c_int (pe_callTy callr_any (by rfl) T.b_int PyProof.Rows.boot_int (pa_cons peW pa_nil)) (re_cmp (os_eq (room64 hr)) (re_var 3) (re_glob T.g_UP) (nomark _))))))))) (rss_one (rs_ret (re_var 1)))))
theorem ok_quarters (T : Tx K mg cl) : Good P w K mg base cl 1 (He.ga K "quarters") f_quarters 1 :=
  have sc := sc_quarters
  good_of T.F_quarters sc rfl rfl (fun _ _ _ _ _ _ us hl => match us, hl with | [_], _ => rfl) fun cdv A outer s H E hr =>
    (rss_one (rs_ret (re_bin os_mod (re_tindex T.t_TURNINGS (pe_bm PySem.F.plainAttrs_tuple PySem.F.slot_tuple_index PySem.F.type_tuple_index mtr_any (pe_glob (by rfl) T.t_TURNINGS.at_ rfl) (pa_cons peW pa_nil)) (re_var 0)) (re_glob T.g_QUARTERS))))
theorem ok_turnings_of (T : Tx K mg cl) : Good P w K mg base cl 2 (He.ga K "turnings_of") f_turnings_of 1 :=
  have sc := sc_turnings_of
  good_of T.F_turnings_of sc rfl rfl (fun _ _ _ _ _ _ us hl => match us, hl with | [_], _ => rfl) fun cdv A outer s H E hr =>
    (rss_cons (rs_asg (re_var 0) (rg_tup (rgs_cons (rg_name 1 sc.nd) (rgs_cons (rg_name 2 sc.nd) rgs_nil)) (gl_cons (gl_cons gl_nil)))) (rss_cons (rs_if (rt_cmp (os_eq (room64 hr)) (re_var 1) (re_var 2) (nomark _)) (rss_one (rs_ret (re_frz (rf_b1 c_sortedT (pe_callB callr_any (by rfl) T.b_sorted PyProof.Rows.boot_sorted (pa_cons peW pa_nil)) (re_glob T.g_TURNINGS))))) rss_nil) (rss_one (rs_ret (re_frz (rf_b1 (c_sorted) (pe_callB callr_any (by rfl) T.b_sorted PyProof.Rows.boot_sorted (pa_cons peW pa_nil)) (re_frz (rf_lc (own := [("turning", 3)]) rfl (by rfl) sc.nd (blkOk_by (by kernel_rfl)) (ri_any (re_glob T.g_TURNINGS)) (fun _ _ _ _ _ => (rg_name 3 sc.nd)) (fun _ _ _ _ _ => (rts_one (rt_cmp (os_eq (room64 hr)) (re_bin os_mod (re_callG (ok_quarters T) (hr.mono (by decide)) T.g_quarters (ra_cons (re_var 3) ra_nil) (al_cons al_nil)) re_int) re_int (nomark _)))) (fun _ _ _ _ _ => (re_var 3)) (by decide)))))))))
theorem ok_bit_cells (T : Tx K mg cl) : Good P w K mg base cl 1 (He.ga K "bit_cells") f_bit_cells 1 :=
  have sc := sc_bit_cells
  good_of T.F_bit_cells sc rfl rfl (fun _ _ _ _ _ _ us hl => match us, hl with | [_], _ => rfl) fun cdv A outer s H E hr =>
    (rss_cons (rs_asg (re_var 0) (rg_tup (rgs_cons (rg_name 1 sc.nd) (rgs_cons (rg_name 2 sc.nd) rgs_nil)) (gl_cons (gl_cons gl_nil)))) (rss_one (rs_ret (re_frz (rf_lc2 (own := [("y", 3), ("x", 4)]) rfl (by rfl) sc.nd (blkOk_by (by kernel_rfl)) (ri_range1 T.b_range (re_var 2)) (fun _ _ _ _ _ => (rg_name 3 sc.nd)) (fun _ _ _ _ _ => rts_nil) (fun _ _ _ _ _ => (ri_range1 T.b_range (re_var 1))) (fun _ _ _ _ _ => (rg_name 4 sc.nd)) (fun _ _ _ _ _ => rts_nil) (fun _ _ _ _ _ => (re_tup (ra_cons (re_var 4) (ra_cons (re_var 3) ra_nil)))) (by decide) (by decide) (by decide))))))
theorem ok_cell_bit (T : Tx K mg cl) : Good P w K mg base cl 1 (He.ga K "cell_bit") f_cell_bit 2 :=
  have sc := sc_cell_bit
  good_of T.F_cell_bit sc rfl rfl (fun _ _ _ _ _ _ us hl => match us, hl with | [_, _], _ => rfl) fun cdv A outer s H E hr =>
    (rss_cons (rs_asg (re_var 0) (rg_tup (rgs_cons (rg_name 2 sc.nd) (rgs_cons (rg_name 3 sc.nd) rgs_nil)) (gl_cons (gl_cons gl_nil)))) (rss_cons (rs_asg (re_var 1) (rg_tup (rgs_cons (rg_name 4 sc.nd) (rgs_cons (rg_name 5 sc.nd) rgs_nil)) (gl_cons (gl_cons gl_nil)))) (rss_one (rs_ret (re_bin os_shl re_int (re_bin os_sub (re_bin os_sub (re_bin os_sub (re_bin os_mul (re_var 2) (re_var 3)) re_int) (re_bin os_mul (re_var 2) (re_var 5))) (re_var 4)))))))
theorem ok_exchanges (T : Tx K mg cl) : Good P w K mg base cl 1 (He.ga K "exchanges") f_exchanges 1 :=
  have sc := sc_exchanges
  good_of T.F_exchanges sc rfl rfl (fun _ _ _ _ _ _ us hl => match us, hl with | [_], _ => rfl) fun cdv A outer s H E hr =>
    (rss_one (rs_ret (re_cmp (os_eq (room64 hr)) (re_ix (room64 hr) (re_var 0) re_int) re_str (nomark _))))
theorem ok_turned_cell (T : Tx K mg cl) : Good P w K mg base cl 2 (He.ga K "turned_cell") f_turned_cell 3 :=
  have sc := sc_turned_cell
  good_of T.F_turned_cell sc rfl rfl (fun _ _ _ _ _ _ us hl => match us, hl with | [_, _, _], _ => rfl) fun cdv A outer s H E hr =>
    (rss_cons (rs_asg (re_var 0) (rg_tup (rgs_cons (rg_name 3 sc.nd) (rgs_cons (rg_name 4 sc.nd) rgs_nil)) (gl_cons (gl_cons gl_nil)))) (rss_cons (rs_asg (re_var 1) (rg_tup (rgs_cons (rg_name 5 sc.nd) (rgs_cons (rg_name 6 sc.nd) rgs_nil)) (gl_cons (gl_cons gl_nil)))) (rss_cons (rs_if (rt_of (re_callG (ok_exchanges T) (hr.mono (by decide)) T.g_exchanges (ra_cons (re_var 2) ra_nil) (al_cons al_nil))) (rss_one (rs_set 5 sc.nd (re_bin os_sub (re_bin os_sub (re_var 3) re_int) (re_var 5)))) rss_nil) (rss_cons (rs_for PassesOwn.never rfl (ri_range1 T.b_range (re_callG (ok_quarters T) (hr.mono (by decide)) T.g_quarters (ra_cons (re_var 2) ra_nil) (al_cons al_nil))) (rg_name 7 sc.nd) (rss_cons (rs_par 5 6 sc.nd (re_bin os_sub (re_bin os_sub (re_var 4) re_int) (re_var 6)) (re_var 5) (by rfl)) (rss_one (rs_par 3 4 sc.nd (re_var 4) (re_var 3) (by rfl))))) (rss_one (rs_ret (re_tup (ra_cons (re_var 5) (ra_cons (re_var 6) ra_nil)))))))))
theorem ok_moves_of (T : Tx K mg cl) : Good P w K mg base cl 3 (He.ga K "moves_of") f_moves_of 2 :=
  have sc := sc_moves_of
  good_of T.F_moves_of sc rfl rfl (fun _ _ _ _ _ _ us hl => match us, hl with | [_, _], _ => rfl) fun cdv A outer s H E hr =>
    (rss_one (rs_ret (re_frz (rf_lc (own := [("cell", 2)]) rfl (by rfl) sc.nd (blkOk_by (by kernel_rfl)) (ri_any (re_callG (ok_bit_cells T) (hr.mono (by decide)) T.g_bit_cells (ra_cons (re_var 0) ra_nil) (al_cons al_nil))) (fun _ _ _ _ _ => (rg_name 2 sc.nd)) (fun _ _ _ _ _ => rts_nil) (fun _ _ _ _ _ => (re_tup (ra_cons (re_callG (ok_cell_bit T) (hr.mono (by decide)) T.g_cell_bit (ra_cons (re_var 0) (ra_cons (re_var 2) ra_nil)) (al_cons (al_cons al_nil))) (ra_cons (re_callG (ok_cell_bit T) (hr.mono (by decide)) T.g_cell_bit (ra_cons (re_var 0) (ra_cons (re_callG (ok_turned_cell T) (hr.mono (by decide)) T.g_turned_cell (ra_cons (re_var 0) (ra_cons (re_var 2) (ra_cons (re_var 1) ra_nil))) (al_cons (al_cons (al_cons al_nil)))) ra_nil)) (al_cons (al_cons al_nil))) ra_nil)))) (by decide)))))
theorem ok_all_moves (T : Tx K mg cl) : Good P w K mg base cl 4 (He.ga K "all_moves") f_all_moves 1 :=
  have sc := sc_all_moves
  good_of T.F_all_moves sc rfl rfl (fun _ _ _ _ _ _ us hl => match us, hl with | [_], _ => rfl) fun cdv A outer s H E hr =>
    (rss_one (rs_ret (re_frz (rf_lc (own := [("turning", 1)]) rfl (by rfl) sc.nd (blkOk_by (by kernel_rfl)) (ri_any (re_callG (ok_turnings_of T) (hr.mono (by decide)) T.g_turnings_of (ra_cons (re_var 0) ra_nil) (al_cons al_nil))) (fun _ _ _ _ _ => (rg_name 1 sc.nd)) (fun _ _ _ _ _ => rts_nil) (fun _ _ _ _ _ => (re_callG (ok_moves_of T) (hr.mono (by decide)) T.g_moves_of (ra_cons (re_var 0) (ra_cons (re_var 1) ra_nil)) (al_cons (al_cons al_nil)))) (by decide)))))
theorem ok_moved_bits (T : Tx K mg cl) : Good P w K mg base cl 1 (He.ga K "moved_bits") f_moved_bits 2 :=
  have sc := sc_moved_bits
  good_of T.F_moved_bits sc rfl rfl (fun _ _ _ _ _ _ us hl => match us, hl with | [_, _], _ => rfl) fun cdv A outer s H E hr =>
    (rss_cons (rs_set 2 sc.nd re_int) (rss_cons (rs_for PassesOwn.never rfl (ri_any (re_var 1)) (rg_tup (rgs_cons (rg_name 3 sc.nd) (rgs_cons (rg_name 4 sc.nd) rgs_nil)) (gl_cons (gl_cons gl_nil))) (rss_one (rs_if (rt_cmp (os_ne (room64 hr)) (re_bin os_and (re_var 0) (re_var 3)) re_int (nomark _)) (rss_one (rs_set 2 sc.nd (re_bin os_or (re_var 2) (re_var 4)))) rss_nil))) (rss_one (rs_ret (re_var 2)))))
theorem ok_top_bit (T : Tx K mg cl) : Good P w K mg base cl 1 (He.ga K "top_bit") f_top_bit 1 :=
  have sc := sc_top_bit
  good_of T.F_top_bit sc rfl rfl (fun _ _ _ _ _ _ us hl => match us, hl with | [_], _ => rfl) fun cdv A outer s H E hr =>
    (rss_one (rs_ret (re_bin os_shl re_int (re_bin os_sub (re_bits (pe_bits peW) (re_var 0)) re_int))))
theorem ok_sifted (T : Tx K mg cl) : Good P w K mg base cl 2 (He.ga K "sifted") f_sifted 2 :=
  have sc := sc_sifted
  good_of T.F_sifted sc rfl rfl (fun _ _ _ _ _ _ us hl => match us, hl with | [_, _], _ => rfl) fun cdv A outer s H E hr =>
    (rss_cons (rs_for PassesOwn.never rfl (ri_any (re_var 0)) (rg_name 2 sc.nd) (rss_one (rs_if (rt_cmp (os_ne (room64 hr)) (re_bin os_and (re_var 1) (re_callG (ok_top_bit T) (hr.mono (by decide)) T.g_top_bit (ra_cons (re_var 2) ra_nil) (al_cons al_nil))) re_int (nomark _)) (rss_one (rs_set 1 sc.nd (re_bin os_xor (re_var 1) (re_var 2)))) rss_nil))) (rss_one (rs_ret (re_var 1))))
theorem ok_joined_rows (T : Tx K mg cl) : Good P w K mg base cl 3 (He.ga K "joined_rows") f_joined_rows 2 :=
  have sc := sc_joined_rows
  good_of T.F_joined_rows sc rfl rfl (fun _ _ _ _ _ _ us hl => match us, hl with | [_, _], _ => rfl) fun cdv A outer s H E hr =>
    (rss_cons (rs_set 2 sc.nd (re_callG (ok_sifted T) (hr.mono (by decide)) T.g_sifted (ra_cons (re_var 0) (ra_cons (re_var 1) ra_nil)) (al_cons (al_cons al_nil)))) (rss_cons (rs_if (rt_cmp (os_eq (room64 hr)) (re_var 2) re_int (nomark _)) (rss_one (rs_ret (re_var 0))) rss_nil) (rss_cons (rs_set 3 sc.nd (re_callG (ok_top_bit T) (hr.mono (by decide)) T.g_top_bit (ra_cons (re_var 2) ra_nil) (al_cons al_nil))) (rss_cons (rs_setLc 4 (own := [("row", 5)]) rfl (by rfl) sc.nd (by rfl) (by rfl) (by rfl) (blkOk_by (by kernel_rfl)) (ri_any (re_var 0)) (fun _ _ _ _ _ => (rg_name 5 sc.nd)) (fun _ _ _ _ _ => rts_nil) (fun _ _ _ _ _ => (re_if (rt_cmp (os_ne (room64 hr)) (re_bin os_and (re_var 5) (re_var 3)) re_int (nomark _)) (re_bin os_xor (re_var 5) (re_var 2)) (re_var 5))) (by decide)) (rss_one (rs_ret (re_frz (rf_sortedR (kpos := ⟨0, 0, 0, 0⟩) (k := 0) (kp := ⟨0, 0, 0, 0⟩) rfl (pe_callBK cr_sortedRev (by rfl) T.b_sorted PyProof.Rows.boot_sorted (pa_cons peW pa_nil) (pk_cons pe_bl pk_nil)) (re_bin os_add (re_var 4) (re_frz (rf_lst (ra_cons (re_var 2) ra_nil))))))))))))
theorem ok_lot_rows (T : Tx K mg cl) : Good P w K mg base cl 5 (He.ga K "lot_rows") f_lot_rows 2 :=
  have sc := sc_lot_rows
  good_of T.F_lot_rows sc rfl rfl (fun _ _ _ _ _ _ us hl => match us, hl with | [_, _], _ => rfl) fun cdv A outer s H E hr =>
    (rss_cons (rs_set 2 sc.nd (re_frz (rf_lst ra_nil))) (rss_cons (rs_set 3 sc.nd (re_callG (ok_all_moves T) (hr.mono (by decide)) T.g_all_moves (ra_cons (re_var 0) ra_nil) (al_cons al_nil))) (rss_cons (rs_for PassesOwn.never rfl (ri_any (re_var 1)) (rg_name 4 sc.nd) (rss_one (rs_for PassesOwn.never rfl (ri_any (re_var 3)) (rg_name 5 sc.nd) (rss_one (rs_set 2 sc.nd (re_callG (ok_joined_rows T) (hr.mono (by decide)) T.g_joined_rows (ra_cons (re_var 2) (ra_cons (re_callG (ok_moved_bits T) (hr.mono (by decide)) T.g_moved_bits (ra_cons (re_var 4) (ra_cons (re_var 5) ra_nil)) (al_cons (al_cons al_nil))) ra_nil)) (al_cons (al_cons al_nil)))))))) (rss_one (rs_ret (re_var 2))))))
theorem ok_Lot___init__ (T : Tx K mg cl) : Good P w K mg base cl 6 (He.ma K (He.ga K "Lot") "__init__") f_Lot___init__ 3 :=
  have sc := sc_Lot___init__
  good_of T.F_Lot___init__ sc rfl rfl (fun _ _ _ _ _ _ us hl => match us, hl with | [_, _, _], _ => rfl) fun cdv A outer s H E hr =>
    (rss_cons (rs_if (rt_not (rt_of (re_callG (ok_is_box T) (hr.mono (by decide)) T.g_is_box (ra_cons (re_var 1) ra_nil) (al_cons al_nil)))) (rss_one rs_never) rss_nil) (rss_cons (rs_if (rt_not (rt_of (re_callG (ok_are_box_faces T) (hr.mono (by decide)) T.g_are_box_faces (ra_cons (re_var 1) (ra_cons (re_var 2) ra_nil)) (al_cons (al_cons al_nil))))) (rss_one rs_never) rss_nil) (rss_cons (rs_fld T.n_frame (re_var 1) (re_var 0)) (rss_one (rs_fld T.n_plain (re_callG (ok_lot_rows T) (hr.mono (by decide)) T.g_lot_rows (ra_cons (re_var 1) (ra_cons (re_frz (rf_orF (rf_lc (own := [("face", 3)]) rfl (by rfl) sc.nd (blkOk_by (by kernel_rfl)) (ri_any (re_var 2)) (fun _ _ _ _ _ => (rg_name 3 sc.nd)) (fun _ _ _ _ _ => rts_nil) (fun _ _ _ _ _ => (re_callG (ok_bits_of T) (hr.mono (by decide)) T.g_bits_of (ra_cons (re_var 3) ra_nil) (al_cons al_nil))) (by decide)) (rf_lcC (own := [("face", 3)]) rfl (by rfl) sc.nd (blkOk_by (by kernel_rfl)) (ri_ptr (re_var 2)) (fun _ _ _ _ _ => (rg_name 3 sc.nd)) (fun _ _ _ _ _ => rts_nil) (fun _ _ _ _ _ => (re_callG (ok_bits_of T) (hr.mono (by decide)) T.g_bits_of (ra_cons (re_var 3) ra_nil) (al_cons al_nil))) (by decide)))) ra_nil)) (al_cons (al_cons al_nil))) (re_var 0))))))
theorem ok_core_rows (T : Tx K mg cl) : Good P w K mg base cl 5 (He.ga K "core_rows") f_core_rows 2 :=
  have sc := sc_core_rows
  good_of T.F_core_rows sc rfl rfl (fun _ _ _ _ _ _ us hl => match us, hl with | [_, _], _ => rfl) fun cdv A outer s H E hr =>
    (rss_cons (rs_set 2 sc.nd (re_frz (rf_lst ra_nil))) (rss_cons (rs_set 3 sc.nd (re_callG (ok_all_moves T) (hr.mono (by decide)) T.g_all_moves (ra_cons (re_var 0) ra_nil) (al_cons al_nil))) (rss_cons (rs_for PassesOwn.never rfl (ri_any (re_var 1)) (rg_name 4 sc.nd) (rss_one (rs_for PassesOwn.never rfl (ri_any (re_var 3)) (rg_name 5 sc.nd) (rss_one (rs_set 2 sc.nd (re_callG (ok_joined_rows T) (hr.mono (by decide)) T.g_joined_rows (ra_cons (re_var 2) (ra_cons (re_bin os_xor (re_var 4) (re_callG (ok_moved_bits T) (hr.mono (by decide)) T.g_moved_bits (ra_cons (re_var 4) (ra_cons (re_var 5) ra_nil)) (al_cons (al_cons al_nil)))) ra_nil)) (al_cons (al_cons al_nil)))))))) (rss_one (rs_ret (re_var 2))))))
theorem ok_lot_from (T : Tx K mg cl) : Good P w K mg base cl 8 (He.ga K "lot_from") f_lot_from 2 :=
  have sc := sc_lot_from
  good_of T.F_lot_from sc rfl rfl (fun _ _ _ _ _ _ us hl => match us, hl with | [_, _], _ => rfl) fun cdv A outer s H E hr =>
    (rss_cons (rs_set 2 sc.nd (re_makeG T.cl_Lot T.mk_Lot (ok_Lot___init__ T) (hr.mono (by decide)) T.C_Lot (ra_cons (re_var 0) (ra_cons (re_frz (rf_lst ra_nil)) ra_nil)) (al_cons (al_cons al_nil)))) (rss_cons (rs_fld T.n_plain (re_var 1) (re_var 2)) (rss_one (rs_ret (re_freeze (re_var 2))))))
theorem ok_Lot_core (T : Tx K mg cl) : Good P w K mg base cl 9 (He.ma K (He.ga K "Lot") "core") f_Lot_core 1 :=
  have sc := sc_Lot_core
  good_of T.F_Lot_core sc rfl rfl (fun _ _ _ _ _ _ us hl => match us, hl with | [_], _ => rfl) fun cdv A outer s H E hr =>
    (rss_one (rs_ret (re_callG (ok_lot_from T) (hr.mono (by decide)) T.g_lot_from (ra_cons (re_fld T.n_frame (re_var 0)) (ra_cons (re_callG (ok_core_rows T) (hr.mono (by decide)) T.g_core_rows (ra_cons (re_fld T.n_frame (re_var 0)) (ra_cons (re_fld T.n_plain (re_var 0)) ra_nil)) (al_cons (al_cons al_nil))) ra_nil)) (al_cons (al_cons al_nil)))))
theorem ok_plain_rows (T : Tx K mg cl) : Good P w K mg base cl 4 (He.ga K "plain_rows") f_plain_rows 1 :=
  have sc := sc_plain_rows
  good_of T.F_plain_rows sc rfl rfl (fun _ _ _ _ _ _ us hl => match us, hl with | [_], _ => rfl) fun cdv A outer s H E hr =>
    (rss_cons (rs_set 1 sc.nd (re_frz (rf_lst ra_nil))) (rss_cons (rs_for PassesOwn.never rfl (ri_any (re_var 0)) (rg_name 2 sc.nd) (rss_one (rs_set 1 sc.nd (re_callG (ok_joined_rows T) (hr.mono (by decide)) T.g_joined_rows (ra_cons (re_var 1) (ra_cons (re_var 2) ra_nil)) (al_cons (al_cons al_nil)))))) (rss_one (rs_ret (re_var 1)))))
theorem ok_still_rows (T : Tx K mg cl) : Good P w K mg base cl 5 (He.ga K "still_rows") f_still_rows 1 :=
  have sc := sc_still_rows
  good_of T.F_still_rows sc rfl rfl (fun _ _ _ _ _ _ us hl => match us, hl with | [_], _ => rfl) fun cdv A outer s H E hr =>
    (rss_cons (rs_set 1 sc.nd (re_own (rf_lst ra_nil))) (rss_cons (rs_set 2 sc.nd (re_callG (ok_all_moves T) (hr.mono (by decide)) T.g_all_moves (ra_cons (re_var 0) ra_nil) (al_cons al_nil))) (rss_cons (rs_for PassesOwn.never rfl (ri_any (re_callG (ok_bit_cells T) (hr.mono (by decide)) T.g_bit_cells (ra_cons (re_var 0) ra_nil) (al_cons al_nil))) (rg_name 3 sc.nd) (rss_cons (rs_set 4 sc.nd re_int) (rss_cons (rs_for PassesOwn.never rfl (ri_any (re_var 2)) (rg_name 5 sc.nd) (rss_one (rs_set 4 sc.nd (re_bin os_or (re_var 4) (re_callG (ok_moved_bits T) (hr.mono (by decide)) T.g_moved_bits (ra_cons (re_callG (ok_cell_bit T) (hr.mono (by decide)) T.g_cell_bit (ra_cons (re_var 0) (ra_cons (re_var 3) ra_nil)) (al_cons (al_cons al_nil))) (ra_cons (re_var 5) ra_nil)) (al_cons (al_cons al_nil))))))) (rss_one (rs_expr (re_mut m_append (pe_bm PySem.F.plainAttrs_list PySem.F.slot_list_append PySem.F.type_list_append mtr_any peW paW) (re_var 1) (ra_cons (re_var 4) ra_nil))))))) (rss_frz (i := 1) (rss_one (rs_ret (re_callG (ok_plain_rows T) (hr.mono (by decide)) T.g_plain_rows (ra_cons (re_var 1) ra_nil) (al_cons al_nil))))))))
theorem ok_comb_at (T : Tx K mg cl) : Good P w K mg base cl 2 (He.ga K "comb_at") f_comb_at 2 :=
  have sc := sc_comb_at
  good_of T.F_comb_at sc rfl rfl (fun _ _ _ _ _ _ us hl => match us, hl with | [_, _], _ => rfl) fun cdv A outer s H E hr =>
    (rss_cons (rs_set 2 sc.nd (re_var 1)) (rss_cons (rs_for PassesOwn.never rfl (ri_any (re_var 0)) (rg_name 3 sc.nd) (rss_one (rs_if (rt_cmp (os_ne (room64 hr)) (re_bin os_and (re_var 3) (re_var 1)) re_int (nomark _)) (rss_one (rs_set 2 sc.nd (re_bin os_or (re_var 2) (re_callG (ok_top_bit T) (hr.mono (by decide)) T.g_top_bit (ra_cons (re_var 3) ra_nil) (al_cons al_nil))))) rss_nil))) (rss_one (rs_ret (re_var 2)))))
theorem ok_against_rows (T : Tx K mg cl) : Good P w K mg base cl 5 (He.ga K "against_rows") f_against_rows 2 :=
  have sc := sc_against_rows
  good_of T.F_against_rows sc rfl rfl (fun _ _ _ _ _ _ us hl => match us, hl with | [_, _], _ => rfl) fun cdv A outer s H E hr =>
    (rss_cons (rs_set 2 sc.nd re_int) (rss_cons (rs_for PassesOwn.never rfl (ri_any (re_var 1)) (rg_name 3 sc.nd) (rss_one (rs_set 2 sc.nd (re_bin os_or (re_var 2) (re_callG (ok_top_bit T) (hr.mono (by decide)) T.g_top_bit (ra_cons (re_var 3) ra_nil) (al_cons al_nil)))))) (rss_cons (rs_setLc 4 (own := [("cell", 5)]) rfl (by rfl) sc.nd (by rfl) (by rfl) (by rfl) (blkOk_by (by kernel_rfl)) (ri_any (re_callG (ok_bit_cells T) (hr.mono (by decide)) T.g_bit_cells (ra_cons (re_var 0) ra_nil) (al_cons al_nil))) (fun _ _ _ _ _ => (rg_name 5 sc.nd)) (fun _ _ _ _ _ => rts_nil) (fun _ _ _ _ _ => (re_callG (ok_cell_bit T) (hr.mono (by decide)) T.g_cell_bit (ra_cons (re_var 0) (ra_cons (re_var 5) ra_nil)) (al_cons (al_cons al_nil)))) (by decide)) (rss_one (rs_ret (re_callG (ok_plain_rows T) (hr.mono (by decide)) T.g_plain_rows (ra_cons (re_frz (rf_lc (own := [("bit", 6)]) rfl (by rfl) sc.nd (blkOk_by (by kernel_rfl)) (ri_any (re_var 4)) (fun _ _ _ _ _ => (rg_name 6 sc.nd)) (fun _ _ _ _ _ => (rts_one (rt_cmp (os_eq (room64 hr)) (re_bin os_and (re_var 2) (re_var 6)) re_int (nomark _)))) (fun _ _ _ _ _ => (re_callG (ok_comb_at T) (hr.mono (by decide)) T.g_comb_at (ra_cons (re_var 1) (ra_cons (re_var 6) ra_nil)) (al_cons (al_cons al_nil)))) (by decide))) ra_nil) (al_cons al_nil)))))))
theorem ok_met_rows (T : Tx K mg cl) : Good P w K mg base cl 6 (He.ga K "met_rows") f_met_rows 3 :=
  have sc := sc_met_rows
  good_of T.F_met_rows sc rfl rfl (fun _ _ _ _ _ _ us hl => match us, hl with | [_, _, _], _ => rfl) fun cdv A outer s H E hr =>
    (rss_one (rs_ret (re_callG (ok_against_rows T) (hr.mono (by decide)) T.g_against_rows (ra_cons (re_var 0) (ra_cons (re_callG (ok_plain_rows T) (hr.mono (by decide)) T.g_plain_rows (ra_cons (re_bin os_add (re_callG (ok_against_rows T) (hr.mono (by decide)) T.g_against_rows (ra_cons (re_var 0) (ra_cons (re_var 1) ra_nil)) (al_cons (al_cons al_nil))) (re_callG (ok_against_rows T) (hr.mono (by decide)) T.g_against_rows (ra_cons (re_var 0) (ra_cons (re_var 2) ra_nil)) (al_cons (al_cons al_nil)))) ra_nil) (al_cons al_nil)) ra_nil)) (al_cons (al_cons al_nil)))))
theorem ok_Lot_still (T : Tx K mg cl) : Good P w K mg base cl 9 (He.ma K (He.ga K "Lot") "still") f_Lot_still 1 :=
  have sc := sc_Lot_still
  good_of T.F_Lot_still sc rfl rfl (fun _ _ _ _ _ _ us hl => match us, hl with | [_], _ => rfl) fun cdv A outer s H E hr =>
    (rss_one (rs_ret (re_callG (ok_lot_from T) (hr.mono (by decide)) T.g_lot_from (ra_cons (re_fld T.n_frame (re_var 0)) (ra_cons (re_callG (ok_met_rows T) (hr.mono (by decide)) T.g_met_rows (ra_cons (re_fld T.n_frame (re_var 0)) (ra_cons (re_fld T.n_plain (re_var 0)) (ra_cons (re_callG (ok_still_rows T) (hr.mono (by decide)) T.g_still_rows (ra_cons (re_fld T.n_frame (re_var 0)) ra_nil) (al_cons al_nil)) ra_nil))) (al_cons (al_cons (al_cons al_nil)))) ra_nil)) (al_cons (al_cons al_nil)))))
theorem ok_Lot_against (T : Tx K mg cl) : Good P w K mg base cl 9 (He.ma K (He.ga K "Lot") "against") f_Lot_against 1 :=
  have sc := sc_Lot_against
  good_of T.F_Lot_against sc rfl rfl (fun _ _ _ _ _ _ us hl => match us, hl with | [_], _ => rfl) fun cdv A outer s H E hr =>
    (rss_one (rs_ret (re_callG (ok_lot_from T) (hr.mono (by decide)) T.g_lot_from (ra_cons (re_fld T.n_frame (re_var 0)) (ra_cons (re_callG (ok_against_rows T) (hr.mono (by decide)) T.g_against_rows (ra_cons (re_fld T.n_frame (re_var 0)) (ra_cons (re_fld T.n_plain (re_var 0)) ra_nil)) (al_cons (al_cons al_nil))) ra_nil)) (al_cons (al_cons al_nil)))))
theorem ok_need_like (T : Tx K mg cl) : Good P w K mg base cl 1 (He.ga K "need_like") f_need_like 2 :=
  have sc := sc_need_like
  good_of T.F_need_like sc rfl rfl (fun _ _ _ _ _ _ us hl => match us, hl with | [_, _], _ => rfl) fun cdv A outer s H E hr =>
    (rss_one (rs_if (rt_cmp (os_ne (room64 hr)) (re_fld T.n_frame (re_var 0)) (re_fld T.n_frame (re_var 1)) (nomark _)) (rss_one rs_never) rss_nil))
theorem ok_joined (T : Tx K mg cl) : Good P w K mg base cl 9 (He.ga K "joined") f_joined 2 :=
  have sc := sc_joined
  good_of T.F_joined sc rfl rfl (fun _ _ _ _ _ _ us hl => match us, hl with | [_, _], _ => rfl) fun cdv A outer s H E hr =>
    (rss_cons (rs_expr (re_callG (ok_need_like T) (hr.mono (by decide)) T.g_need_like (ra_cons (re_var 0) (ra_cons (re_var 1) ra_nil)) (al_cons (al_cons al_nil)))) (rss_one (rs_ret (re_callG (ok_lot_from T) (hr.mono (by decide)) T.g_lot_from (ra_cons (re_fld T.n_frame (re_var 0)) (ra_cons (re_callG (ok_plain_rows T) (hr.mono (by decide)) T.g_plain_rows (ra_cons (re_bin os_add (re_fld T.n_plain (re_var 0)) (re_fld T.n_plain (re_var 1))) ra_nil) (al_cons al_nil)) ra_nil)) (al_cons (al_cons al_nil))))))
theorem ok_met (T : Tx K mg cl) : Good P w K mg base cl 9 (He.ga K "met") f_met 2 :=
  have sc := sc_met
  good_of T.F_met sc rfl rfl (fun _ _ _ _ _ _ us hl => match us, hl with | [_, _], _ => rfl) fun cdv A outer s H E hr =>
    (rss_cons (rs_expr (re_callG (ok_need_like T) (hr.mono (by decide)) T.g_need_like (ra_cons (re_var 0) (ra_cons (re_var 1) ra_nil)) (al_cons (al_cons al_nil)))) (rss_one (rs_ret (re_callG (ok_lot_from T) (hr.mono (by decide)) T.g_lot_from (ra_cons (re_fld T.n_frame (re_var 0)) (ra_cons (re_callG (ok_met_rows T) (hr.mono (by decide)) T.g_met_rows (ra_cons (re_fld T.n_frame (re_var 0)) (ra_cons (re_fld T.n_plain (re_var 0)) (ra_cons (re_fld T.n_plain (re_var 1)) ra_nil))) (al_cons (al_cons (al_cons al_nil)))) ra_nil)) (al_cons (al_cons al_nil))))))
theorem ok_Lot_layers (T : Tx K mg cl) : Good P w K mg base cl 10 (He.ma K (He.ga K "Lot") "layers") f_Lot_layers 1 :=
  have sc := sc_Lot_layers
  good_of T.F_Lot_layers sc rfl rfl (fun _ _ _ _ _ _ us hl => match us, hl with | [_], _ => rfl) fun cdv A outer s H E hr =>
    (rss_cons (rs_set 1 sc.nd (re_own (rf_lst (ra_cons (re_callG (ok_lot_from T) (hr.mono (by decide)) T.g_lot_from (ra_cons (re_fld T.n_frame (re_var 0)) (ra_cons (re_frz (rf_b1 (c_list) (pe_callTy callr_any (by rfl) T.b_list PyProof.Rows.boot_list (pa_cons peW pa_nil)) (re_fld T.n_plain (re_var 0)))) ra_nil)) (al_cons (al_cons al_nil))) ra_nil)))) (rss_cons (rs_while 100000 PassesOwn.never (rt_cmp (os_ne (room64 hr)) (re_fld T.n_plain (re_ix (room64 hr) (re_var 1) (re_neg re_int))) (re_frz (rf_lst ra_nil)) (nomark _)) (rss_one (rs_expr (re_mut m_append (pe_bm PySem.F.plainAttrs_list PySem.F.slot_list_append PySem.F.type_list_append mtr_any peW paW) (re_var 1) (ra_cons (re_meth0 (methT T.cl_Lot T.k_Lot T.m_Lot_core ((ok_Lot_core T))) (fun c hm F b => pe_meth0 peW c hm F (hr.mono (by decide)) b .nil pass0) (re_ix (room64 hr) (re_var 1) (re_neg re_int))) ra_nil))))) (rss_one (rs_ret (re_freeze (re_var 1))))))
theorem ok__law_told_lots (T : Tx K mg cl) : Good P w K mg base cl 11 (He.ga K "_law_told_lots") f__law_told_lots 2 :=
  have sc := sc__law_told_lots
  good_of T.F__law_told_lots sc rfl rfl (fun _ _ _ _ _ _ us hl => match us, hl with | [_, _], _ => rfl) fun cdv A outer s H E hr =>
    (rss_cons (rs_par 2 3 sc.nd (re_trimF (re_makeG T.cl_Lot T.mk_Lot (ok_Lot___init__ T) (hr.mono (by decide)) T.C_Lot (ra_cons (re_var 1) (ra_cons (re_callG (ok__law_seeds T) (hr.mono (by decide)) T.g__law_seeds (ra_cons (re_var 0) (ra_cons (re_var 1) (ra_cons re_int ra_nil))) (al_cons (al_cons (al_cons al_nil)))) ra_nil)) (al_cons (al_cons al_nil)))) (re_trimF (re_makeG T.cl_Lot T.mk_Lot (ok_Lot___init__ T) (hr.mono (by decide)) T.C_Lot (ra_cons (re_var 1) (ra_cons (re_callG (ok__law_seeds T) (hr.mono (by decide)) T.g__law_seeds (ra_cons (re_var 0) (ra_cons (re_var 1) (ra_cons re_int ra_nil))) (al_cons (al_cons (al_cons al_nil)))) ra_nil)) (al_cons (al_cons al_nil)))) (by rfl)) (rss_cons (rs_set 4 sc.nd (re_frz (rf_lst (ra_cons (re_var 2) (ra_cons (re_meth0 (methT T.cl_Lot T.k_Lot T.m_Lot_core ((ok_Lot_core T))) (fun c hm F b => pe_meth0 peW c hm F (hr.mono (by decide)) b .nil pass0) (re_var 2)) (ra_cons (re_meth0 (methT T.cl_Lot T.k_Lot T.m_Lot_still ((ok_Lot_still T))) (fun c hm F b => pe_meth0 peW c hm F (hr.mono (by decide)) b .nil pass0) (re_var 2)) (ra_cons (re_meth0 (methT T.cl_Lot T.k_Lot T.m_Lot_against ((ok_Lot_against T))) (fun c hm F b => pe_meth0 peW c hm F (hr.mono (by decide)) b .nil pass0) (re_var 2)) (ra_cons (re_callG (ok_joined T) (hr.mono (by decide)) T.g_joined (ra_cons (re_var 2) (ra_cons (re_meth0 (methT T.cl_Lot T.k_Lot T.m_Lot_against ((ok_Lot_against T))) (fun c hm F b => pe_meth0 peW c hm F (hr.mono (by decide)) b .nil pass0) (re_var 2)) ra_nil)) (al_cons (al_cons al_nil))) (ra_cons (re_callG (ok_met T) (hr.mono (by decide)) T.g_met (ra_cons (re_var 2) (ra_cons (re_meth0 (methT T.cl_Lot T.k_Lot T.m_Lot_core ((ok_Lot_core T))) (fun c hm F b => pe_meth0 peW c hm F (hr.mono (by decide)) b .nil pass0) (re_var 2)) ra_nil)) (al_cons (al_cons al_nil))) ra_nil))))))))) (rss_cons (rs_set 4 sc.nd (re_bin os_add (re_bin os_add (re_var 4) (re_frz (rf_lst (ra_cons (re_callG (ok_joined T) (hr.mono (by decide)) T.g_joined (ra_cons (re_var 2) (ra_cons (re_var 3) ra_nil)) (al_cons (al_cons al_nil))) (ra_cons (re_callG (ok_met T) (hr.mono (by decide)) T.g_met (ra_cons (re_var 2) (ra_cons (re_var 3) ra_nil)) (al_cons (al_cons al_nil))) (ra_cons (re_callG (ok_joined T) (hr.mono (by decide)) T.g_joined (ra_cons (re_trimF (re_makeG T.cl_Lot T.mk_Lot (ok_Lot___init__ T) (hr.mono (by decide)) T.C_Lot (ra_cons (re_var 1) (ra_cons (re_frz (rf_lst ra_nil)) ra_nil)) (al_cons (al_cons al_nil)))) (ra_cons (re_var 2) ra_nil)) (al_cons (al_cons al_nil))) ra_nil)))))) (re_meth0 (methT T.cl_Lot T.k_Lot T.m_Lot_layers ((ok_Lot_layers T))) (fun c hm F b => pe_meth0 peW c hm F (hr.mono (by decide)) b .nil pass0) (re_var 2)))) (rss_cons (rs_set 5 sc.nd (re_ix (room64 hr) (re_var 4) (re_callG (ok__law_take T) (hr.mono (by decide)) T.g__law_take (ra_cons (re_var 0) (ra_cons (re_b1 c_len (pe_callB callr_any (by rfl) T.b_len boot_len (pa_cons peW pa_nil)) (re_var 4)) ra_nil)) (al_cons (al_cons al_nil))))) (rss_one (rs_ret (re_bin os_add (re_bin os_add (re_var 4) (re_frz (rf_lst (ra_cons (re_meth0 (methT T.cl_Lot T.k_Lot T.m_Lot_core ((ok_Lot_core T))) (fun c hm F b => pe_meth0 peW c hm F (hr.mono (by decide)) b .nil pass0) (re_var 5)) (ra_cons (re_meth0 (methT T.cl_Lot T.k_Lot T.m_Lot_against ((ok_Lot_against T))) (fun c hm F b => pe_meth0 peW c hm F (hr.mono (by decide)) b .nil pass0) (re_var 5)) (ra_cons (re_meth0 (methT T.cl_Lot T.k_Lot T.m_Lot_still ((ok_Lot_still T))) (fun c hm F b => pe_meth0 peW c hm F (hr.mono (by decide)) b .nil pass0) (re_var 5)) (ra_cons (re_callG (ok_joined T) (hr.mono (by decide)) T.g_joined (ra_cons (re_var 5) (ra_cons (re_meth0 (methT T.cl_Lot T.k_Lot T.m_Lot_core ((ok_Lot_core T))) (fun c hm F b => pe_meth0 peW c hm F (hr.mono (by decide)) b .nil pass0) (re_var 3)) ra_nil)) (al_cons (al_cons al_nil))) ra_nil))))))) (re_sl (re_meth0 (methT T.cl_Lot T.k_Lot T.m_Lot_layers ((ok_Lot_layers T))) (fun c hm F b => pe_meth0 peW c hm F (hr.mono (by decide)) b .nil pass0) (re_var 5)) ro_none (ro_some re_int)))))))))
theorem ok_face_from (T : Tx K mg cl) : Good P w K mg base cl 1 (He.ga K "face_from") f_face_from 2 :=
  have sc := sc_face_from
  good_of T.F_face_from sc rfl rfl (fun _ _ _ _ _ _ us hl => match us, hl with | [_, _], _ => rfl) fun cdv A outer s H E hr =>
    (rss_cons (rs_asg (re_var 0) (rg_tup (rgs_cons (rg_name 2 sc.nd) (rgs_cons (rg_name 3 sc.nd) rgs_nil)) (gl_cons (gl_cons gl_nil)))) (rss_cons (rs_set 4 sc.nd re_str) (rss_cons (rs_for PassesOwn.never rfl (ri_range1 T.b_range (re_bin os_mul (re_var 2) (re_var 3))) (rg_name 5 sc.nd) (rss_cons (rs_set 4 sc.nd (re_bin os_add (re_if (rt_cmp (os_eq (room64 hr)) (re_bin os_and (re_var 1) re_int) re_int (nomark _)) (re_glob T.g_UP) (re_glob T.g_FLAT)) (re_var 4))) (rss_one (rs_set 1 sc.nd (re_bin os_shr (re_var 1) re_int))))) (rss_one (rs_ret (re_b1 c_tuple (pe_callTy callr_any (by rfl) T.b_tuple PyProof.Rows.boot_tuple (pa_cons peW pa_nil)) (re_frz (rf_lc (own := [("y", 6)]) rfl (by rfl) sc.nd (blkOk_by (by kernel_rfl)) (ri_range1 T.b_range (re_var 3)) (fun _ _ _ _ _ => (rg_name 6 sc.nd)) (fun _ _ _ _ _ => rts_nil) (fun _ _ _ _ _ => (re_sl (re_var 4) (ro_some (re_bin os_mul (re_var 2) (re_var 6))) (ro_some (re_bin os_add (re_bin os_mul (re_var 2) (re_var 6)) (re_var 2))))) (by decide)))))))))
theorem ok_Lot_rows (T : Tx K mg cl) : Good P w K mg base cl 2 (He.ma K (He.ga K "Lot") "rows") f_Lot_rows 1 :=
  have sc := sc_Lot_rows
  good_of T.F_Lot_rows sc rfl rfl (fun _ _ _ _ _ _ us hl => match us, hl with | [_], _ => rfl) fun cdv A outer s H E hr =>
    (rss_one (rs_ret (re_frz (rf_lc (own := [("row", 1)]) rfl (by rfl) sc.nd (blkOk_by (by kernel_rfl)) (ri_any (re_fld T.n_plain (re_var 0))) (fun _ _ _ _ _ => (rg_name 1 sc.nd)) (fun _ _ _ _ _ => rts_nil) (fun _ _ _ _ _ => (re_callG (ok_face_from T) (hr.mono (by decide)) T.g_face_from (ra_cons (re_fld T.n_frame (re_var 0)) (ra_cons (re_var 1) ra_nil)) (al_cons (al_cons al_nil)))) (by decide)))))
theorem ok_Lot_doublings (T : Tx K mg cl) : Good P w K mg base cl 1 (He.ma K (He.ga K "Lot") "doublings") f_Lot_doublings 1 :=
  have sc := sc_Lot_doublings
  good_of T.F_Lot_doublings sc rfl rfl (fun _ _ _ _ _ _ us hl => match us, hl with | [_], _ => rfl) fun cdv A outer s H E hr =>
    (rss_one (rs_ret (re_b1 c_len (pe_callB callr_any (by rfl) T.b_len boot_len (pa_cons peW pa_nil)) (re_fld T.n_plain (re_var 0)))))
theorem ok_Lot_box (T : Tx K mg cl) : Good P w K mg base cl 1 (He.ma K (He.ga K "Lot") "box") f_Lot_box 1 :=
  have sc := sc_Lot_box
  good_of T.F_Lot_box sc rfl rfl (fun _ _ _ _ _ _ us hl => match us, hl with | [_], _ => rfl) fun cdv A outer s H E hr =>
    (rss_one (rs_ret (re_fld T.n_frame (re_var 0))))
theorem ok__law_alike_right (T : Tx K mg cl) : Good P w K mg base cl 11 (He.ga K "_law_alike_right") f__law_alike_right 2 :=
  have sc := sc__law_alike_right
  good_of T.F__law_alike_right sc rfl rfl (fun _ _ _ _ _ _ us hl => match us, hl with | [_, _], _ => rfl) fun cdv A outer s H E hr =>
    (rss_cons (rs_if (rt_rw (rw_or (rt_cmp (os_ne (room64 hr)) (re_meth0 (methT T.cl_Lot T.k_Lot T.m_Lot_rows ((ok_Lot_rows T))) (fun c hm F b => pe_meth0 peW c hm F (hr.mono (by decide)) b .nil pass0) (re_var 0)) (re_meth0 (methT T.cl_Lot T.k_Lot T.m_Lot_rows ((ok_Lot_rows T))) (fun c hm F b => pe_meth0 peW c hm F (hr.mono (by decide)) b .nil pass0) (re_var 1)) (nomark _)) (rw_or (rt_cmp (os_ne (room64 hr)) (re_meth0 (methT T.cl_Lot T.k_Lot T.m_Lot_doublings ((ok_Lot_doublings T))) (fun c hm F b => pe_meth0 peW c hm F (hr.mono (by decide)) b .nil pass0) (re_var 0)) (re_meth0 (methT T.cl_Lot T.k_Lot T.m_Lot_doublings ((ok_Lot_doublings T))) (fun c hm F b => pe_meth0 peW c hm F (hr.mono (by decide)) b .nil pass0) (re_var 1)) (nomark _)) (rw_or1 (rt_cmp (os_ne (room64 hr)) (re_meth0 (methT T.cl_Lot T.k_Lot T.m_Lot_box ((ok_Lot_box T))) (fun c hm F b => pe_meth0 peW c hm F (hr.mono (by decide)) b .nil pass0) (re_var 0)) (re_meth0 (methT T.cl_Lot T.k_Lot T.m_Lot_box ((ok_Lot_box T))) (fun c hm F b => pe_meth0 peW c hm F (hr.mono (by decide)) b .nil pass0) (re_var 1)) (nomark _)))))) (rss_one (rs_ret re_bl)) rss_nil) (rss_cons (rs_if (rt_rw (rw_or (rt_cmp (os_ne (room64 hr)) (re_meth0 (methT T.cl_Lot T.k_Lot T.m_Lot_rows ((ok_Lot_rows T))) (fun c hm F b => pe_meth0 peW c hm F (hr.mono (by decide)) b .nil pass0) (re_meth0 (methT T.cl_Lot T.k_Lot T.m_Lot_core ((ok_Lot_core T))) (fun c hm F b => pe_meth0 peW c hm F (hr.mono (by decide)) b .nil pass0) (re_var 0))) (re_meth0 (methT T.cl_Lot T.k_Lot T.m_Lot_rows ((ok_Lot_rows T))) (fun c hm F b => pe_meth0 peW c hm F (hr.mono (by decide)) b .nil pass0) (re_meth0 (methT T.cl_Lot T.k_Lot T.m_Lot_core ((ok_Lot_core T))) (fun c hm F b => pe_meth0 peW c hm F (hr.mono (by decide)) b .nil pass0) (re_var 1))) (nomark _)) (rw_or1 (rt_cmp (os_ne (room64 hr)) (re_meth0 (methT T.cl_Lot T.k_Lot T.m_Lot_rows ((ok_Lot_rows T))) (fun c hm F b => pe_meth0 peW c hm F (hr.mono (by decide)) b .nil pass0) (re_meth0 (methT T.cl_Lot T.k_Lot T.m_Lot_still ((ok_Lot_still T))) (fun c hm F b => pe_meth0 peW c hm F (hr.mono (by decide)) b .nil pass0) (re_var 0))) (re_meth0 (methT T.cl_Lot T.k_Lot T.m_Lot_rows ((ok_Lot_rows T))) (fun c hm F b => pe_meth0 peW c hm F (hr.mono (by decide)) b .nil pass0) (re_meth0 (methT T.cl_Lot T.k_Lot T.m_Lot_still ((ok_Lot_still T))) (fun c hm F b => pe_meth0 peW c hm F (hr.mono (by decide)) b .nil pass0) (re_var 1))) (nomark _))))) (rss_one (rs_ret re_bl)) rss_nil) (rss_cons (rs_setLc 2 (own := [("one", 3)]) rfl (by rfl) sc.nd (by rfl) (by rfl) (by rfl) (blkOk_by (by kernel_rfl)) (ri_any (re_meth0 (methT T.cl_Lot T.k_Lot T.m_Lot_layers ((ok_Lot_layers T))) (fun c hm F b => pe_meth0 peW c hm F (hr.mono (by decide)) b .nil pass0) (re_var 0))) (fun _ _ _ _ _ => (rg_name 3 sc.nd)) (fun _ _ _ _ _ => rts_nil) (fun _ _ _ _ _ => (re_meth0 (methT T.cl_Lot T.k_Lot T.m_Lot_rows ((ok_Lot_rows T))) (fun c hm F b => pe_meth0 peW c hm F (hr.mono (by decide)) b .nil pass0) (re_var 3))) (by decide)) (rss_one (rs_ret (re_and (re_cmp (os_eq (room64 hr)) (re_meth0 (methT T.cl_Lot T.k_Lot T.m_Lot_rows ((ok_Lot_rows T))) (fun c hm F b => pe_meth0 peW c hm F (hr.mono (by decide)) b .nil pass0) (re_meth0 (methT T.cl_Lot T.k_Lot T.m_Lot_against ((ok_Lot_against T))) (fun c hm F b => pe_meth0 peW c hm F (hr.mono (by decide)) b .nil pass0) (re_var 0))) (re_meth0 (methT T.cl_Lot T.k_Lot T.m_Lot_rows ((ok_Lot_rows T))) (fun c hm F b => pe_meth0 peW c hm F (hr.mono (by decide)) b .nil pass0) (re_meth0 (methT T.cl_Lot T.k_Lot T.m_Lot_against ((ok_Lot_against T))) (fun c hm F b => pe_meth0 peW c hm F (hr.mono (by decide)) b .nil pass0) (re_var 1))) (nomark _)) (re_one (re_cmp (os_eq (room64 hr)) (re_var 2) (re_frz (rf_lc (own := [("one", 3)]) rfl (by rfl) sc.nd (blkOk_by (by kernel_rfl)) (ri_any (re_meth0 (methT T.cl_Lot T.k_Lot T.m_Lot_layers ((ok_Lot_layers T))) (fun c hm F b => pe_meth0 peW c hm F (hr.mono (by decide)) b .nil pass0) (re_var 1))) (fun _ _ _ _ _ => (rg_name 3 sc.nd)) (fun _ _ _ _ _ => rts_nil) (fun _ _ _ _ _ => (re_meth0 (methT T.cl_Lot T.k_Lot T.m_Lot_rows ((ok_Lot_rows T))) (fun c hm F b => pe_meth0 peW c hm F (hr.mono (by decide)) b .nil pass0) (re_var 3))) (by decide))) (nomark _)))))))))
theorem ok_apart_over (T : Tx K mg cl) : Good P w K mg base cl 4 (He.ga K "apart_over") f_apart_over 2 :=
  have sc := sc_apart_over
  good_of T.F_apart_over sc rfl rfl (fun _ _ _ _ _ _ us hl => match us, hl with | [_, _], _ => rfl) fun cdv A outer s H E hr =>
    (rss_cons (rs_set 2 sc.nd (re_own (rf_lst ra_nil))) (rss_cons (rs_for PassesOwn.never rfl (ri_any (re_var 1)) (rg_name 3 sc.nd) (rss_one (rs_if (rt_cmp (os_ne (room64 hr)) (re_callG (ok_sifted T) (hr.mono (by decide)) T.g_sifted (ra_cons (re_var 0) (ra_cons (re_var 3) ra_nil)) (al_cons (al_cons al_nil))) re_int (nomark _)) (rss_cons (rs_expr (re_mut m_append (pe_bm PySem.F.plainAttrs_list PySem.F.slot_list_append PySem.F.type_list_append mtr_any peW paW) (re_var 2) (ra_cons (re_var 3) ra_nil))) (rss_one (rs_set 0 sc.nd (re_callG (ok_joined_rows T) (hr.mono (by decide)) T.g_joined_rows (ra_cons (re_var 0) (ra_cons (re_var 3) ra_nil)) (al_cons (al_cons al_nil)))))) rss_nil))) (rss_one (rs_ret (re_freeze (re_var 2))))))
theorem ok_Lot_makers (T : Tx K mg cl) : Good P w K mg base cl 6 (He.ma K (He.ga K "Lot") "makers") f_Lot_makers 1 :=
  have sc := sc_Lot_makers
  good_of T.F_Lot_makers sc rfl rfl (fun _ _ _ _ _ _ us hl => match us, hl with | [_], _ => rfl) fun cdv A outer s H E hr =>
    (rss_cons (rs_set 1 sc.nd (re_callG (ok_apart_over T) (hr.mono (by decide)) T.g_apart_over (ra_cons (re_callG (ok_core_rows T) (hr.mono (by decide)) T.g_core_rows (ra_cons (re_fld T.n_frame (re_var 0)) (ra_cons (re_fld T.n_plain (re_var 0)) ra_nil)) (al_cons (al_cons al_nil))) (ra_cons (re_fld T.n_plain (re_var 0)) ra_nil)) (al_cons (al_cons al_nil)))) (rss_one (rs_ret (re_own (rf_lc (own := [("number", 2)]) rfl (by rfl) sc.nd (blkOk_by (by kernel_rfl)) (ri_any (re_var 1)) (fun _ _ _ _ _ => (rg_name 2 sc.nd)) (fun _ _ _ _ _ => rts_nil) (fun _ _ _ _ _ => (re_callG (ok_face_from T) (hr.mono (by decide)) T.g_face_from (ra_cons (re_fld T.n_frame (re_var 0)) (ra_cons (re_var 2) ra_nil)) (al_cons (al_cons al_nil)))) (by decide))))))
theorem ok__law_makers_right (T : Tx K mg cl) : Good P w K mg base cl 10 (He.ga K "_law_makers_right") f__law_makers_right 1 :=
  have sc := sc__law_makers_right
  good_of T.F__law_makers_right sc rfl rfl (fun _ _ _ _ _ _ us hl => match us, hl with | [_], _ => rfl) fun cdv A outer s H E hr =>
    (rss_cons (rs_for PassesOwn.never rfl (ri_range1 T.b_range re_int) (rg_name 1 sc.nd) (rss_cons (rs_set 2 sc.nd (re_meth0 (methT T.cl_Lot T.k_Lot T.m_Lot_makers ((ok_Lot_makers T))) (fun c hm F b => pe_meth0 peW c hm F (hr.mono (by decide)) b .nil pass0) (re_var 0))) (rss_cons (rs_if (rt_rw (rw_or (rt_not (rt_of (re_isB (T := "list") (pe_callB callr_any (by rfl) T.b_isinstance PyProof.Rows.boot_isinstance (pa_cons peW (pa_cons (pe_bltn (by rfl) T.b_list PyProof.Rows.boot_list rfl) pa_nil))) (by decide) (re_var 2)))) (rw_or1 (rt_cmp (os_ne (room64 hr)) (re_b1 c_len (pe_callB callr_any (by rfl) T.b_len boot_len (pa_cons peW pa_nil)) (re_var 2)) (re_bin os_sub (re_meth0 (methT T.cl_Lot T.k_Lot T.m_Lot_doublings ((ok_Lot_doublings T))) (fun c hm F b => pe_meth0 peW c hm F (hr.mono (by decide)) b .nil pass0) (re_var 0)) (re_meth0 (methT T.cl_Lot T.k_Lot T.m_Lot_doublings ((ok_Lot_doublings T))) (fun c hm F b => pe_meth0 peW c hm F (hr.mono (by decide)) b .nil pass0) (re_meth0 (methT T.cl_Lot T.k_Lot T.m_Lot_core ((ok_Lot_core T))) (fun c hm F b => pe_meth0 peW c hm F (hr.mono (by decide)) b .nil pass0) (re_var 0)))) (nomark _))))) (rss_one (rs_ret re_bl)) rss_nil) (rss_cons (rs_if (rt_cmp (os_ne (room64 hr)) (re_meth0 (methT T.cl_Lot T.k_Lot T.m_Lot_rows ((ok_Lot_rows T))) (fun c hm F b => pe_meth0 peW c hm F (hr.mono (by decide)) b .nil pass0) (re_trimF (re_makeG T.cl_Lot T.mk_Lot (ok_Lot___init__ T) (hr.mono (by decide)) T.C_Lot (ra_cons (re_meth0 (methT T.cl_Lot T.k_Lot T.m_Lot_box ((ok_Lot_box T))) (fun c hm F b => pe_meth0 peW c hm F (hr.mono (by decide)) b .nil pass0) (re_var 0)) (ra_cons (re_var 2) ra_nil)) (al_cons (al_cons al_nil))))) (re_meth0 (methT T.cl_Lot T.k_Lot T.m_Lot_rows ((ok_Lot_rows T))) (fun c hm F b => pe_meth0 peW c hm F (hr.mono (by decide)) b .nil pass0) (re_var 0)) (nomark _)) (rss_one (rs_ret re_bl)) rss_nil) (rss_cons (rs_for PassesOwn.never rfl (ri_range1 T.b_range (re_b1 c_len (pe_callB callr_any (by rfl) T.b_len boot_len (pa_cons peW pa_nil)) (re_var 2))) (rg_name 3 sc.nd) (rss_one (rs_if (rt_cmp os_ge (re_meth0 (methT T.cl_Lot T.k_Lot T.m_Lot_doublings ((ok_Lot_doublings T))) (fun c hm F b => pe_meth0 peW c hm F (hr.mono (by decide)) b .nil pass0) (re_trimF (re_makeG T.cl_Lot T.mk_Lot (ok_Lot___init__ T) (hr.mono (by decide)) T.C_Lot (ra_cons (re_meth0 (methT T.cl_Lot T.k_Lot T.m_Lot_box ((ok_Lot_box T))) (fun c hm F b => pe_meth0 peW c hm F (hr.mono (by decide)) b .nil pass0) (re_var 0)) (ra_cons (re_bin os_add (re_sl (re_var 2) ro_none (ro_some (re_var 3))) (re_sl (re_var 2) (ro_some (re_bin os_add (re_var 3) re_int)) ro_none)) ra_nil)) (al_cons (al_cons al_nil))))) (re_meth0 (methT T.cl_Lot T.k_Lot T.m_Lot_doublings ((ok_Lot_doublings T))) (fun c hm F b => pe_meth0 peW c hm F (hr.mono (by decide)) b .nil pass0) (re_var 0)) (nomark _)) (rss_one (rs_ret re_bl)) rss_nil))) (rss_cons (rs_expr (re_mut0 m_reverse (pe_bm0 PySem.F.plainAttrs_list PySem.F.slot_list_reverse PySem.F.type_list_reverse mtr_any peW) (re_var 2))) (rss_one (rs_expr (re_mut m_append (pe_bm PySem.F.plainAttrs_list PySem.F.slot_list_append PySem.F.type_list_append mtr_any peW paW) (re_var 2) (ra_cons re_non ra_nil)))))))))) (rss_one (rs_ret re_bl)))
theorem ok_Lot_member (T : Tx K mg cl) : Good P w K mg base cl 2 (He.ma K (He.ga K "Lot") "member") f_Lot_member 2 :=
  have sc := sc_Lot_member
  good_of T.F_Lot_member sc rfl rfl (fun _ _ _ _ _ _ us hl => match us, hl with | [_, _], _ => rfl) fun cdv A outer s H E hr =>
    (rss_cons (rs_if (rt_rw (rw_or (rt_cmp os_lt (re_var 1) re_int (nomark _)) (rw_or1 (rt_cmp os_gt (re_bin os_shr (re_var 1) (re_b1 c_len (pe_callB callr_any (by rfl) T.b_len boot_len (pa_cons peW pa_nil)) (re_fld T.n_plain (re_var 0)))) re_int (nomark _))))) (rss_one rs_never) rss_nil) (rss_cons (rs_set 2 sc.nd (re_var 1)) (rss_cons (rs_set 3 sc.nd re_int) (rss_cons (rs_for PassesOwn.never rfl (ri_any (re_rv (re_fld T.n_plain (re_var 0)))) (rg_name 4 sc.nd) (rss_cons (rs_if (rt_cmp (os_eq (room64 hr)) (re_bin os_and (re_var 2) re_int) re_int (nomark _)) (rss_one (rs_set 3 sc.nd (re_bin os_xor (re_var 3) (re_var 4)))) rss_nil) (rss_one (rs_set 2 sc.nd (re_bin os_shr (re_var 2) re_int))))) (rss_one (rs_ret (re_callG (ok_face_from T) (hr.mono (by decide)) T.g_face_from (ra_cons (re_fld T.n_frame (re_var 0)) (ra_cons (re_var 3) ra_nil)) (al_cons (al_cons al_nil)))))))))
theorem ok_Lot_has (T : Tx K mg cl) : Good P w K mg base cl 3 (He.ma K (He.ga K "Lot") "has") f_Lot_has 2 :=
  have sc := sc_Lot_has
  good_of T.F_Lot_has sc rfl rfl (fun _ _ _ _ _ _ us hl => match us, hl with | [_, _], _ => rfl) fun cdv A outer s H E hr =>
    (rss_one (rs_ret (re_cmp (os_eq (room64 hr)) (re_callG (ok_sifted T) (hr.mono (by decide)) T.g_sifted (ra_cons (re_fld T.n_plain (re_var 0)) (ra_cons (re_callG (ok_bits_of T) (hr.mono (by decide)) T.g_bits_of (ra_cons (re_var 1) ra_nil) (al_cons al_nil)) ra_nil)) (al_cons (al_cons al_nil))) re_int (nomark _))))
theorem ok_Lot_number_of (T : Tx K mg cl) : Good P w K mg base cl 4 (He.ma K (He.ga K "Lot") "number_of") f_Lot_number_of 2 :=
  have sc := sc_Lot_number_of
  good_of T.F_Lot_number_of sc rfl rfl (fun _ _ _ _ _ _ us hl => match us, hl with | [_, _], _ => rfl) fun cdv A outer s H E hr =>
    (rss_cons (rs_if (rt_not (rt_of (re_meth (methT T.cl_Lot T.k_Lot T.m_Lot_has ((ok_Lot_has T))) (fun c hm F b => pe_meth peW c hm F (hr.mono (by decide)) b .nil pass0 paW) (re_var 0) (ra_cons (re_var 1) ra_nil) (al_cons al_nil)))) (rss_one (rs_ret re_non)) rss_nil) (rss_cons (rs_set 2 sc.nd (re_callG (ok_bits_of T) (hr.mono (by decide)) T.g_bits_of (ra_cons (re_var 1) ra_nil) (al_cons al_nil))) (rss_cons (rs_set 3 sc.nd re_int) (rss_cons (rs_for PassesOwn.never rfl (ri_any (re_fld T.n_plain (re_var 0))) (rg_name 4 sc.nd) (rss_one (rs_set 3 sc.nd (re_bin os_add (re_bin os_mul re_int (re_var 3)) (re_b1 c_int (pe_callTy callr_any (by rfl) T.b_int PyProof.Rows.boot_int (pa_cons peW pa_nil)) (re_cmp (os_ne (room64 hr)) (re_bin os_and (re_var 2) (re_callG (ok_top_bit T) (hr.mono (by decide)) T.g_top_bit (ra_cons (re_var 4) ra_nil) (al_cons al_nil))) re_int (nomark _))))))) (rss_one (rs_ret (re_var 3)))))))
theorem ok_Lot_comb (T : Tx K mg cl) : Good P w K mg base cl 3 (He.ma K (He.ga K "Lot") "comb") f_Lot_comb 2 :=
  have sc := sc_Lot_comb
  good_of T.F_Lot_comb sc rfl rfl (fun _ _ _ _ _ _ us hl => match us, hl with | [_, _], _ => rfl) fun cdv A outer s H E hr =>
    (rss_cons (rs_set 2 sc.nd (re_callG (ok_sifted T) (hr.mono (by decide)) T.g_sifted (ra_cons (re_fld T.n_plain (re_var 0)) (ra_cons (re_callG (ok_bits_of T) (hr.mono (by decide)) T.g_bits_of (ra_cons (re_var 1) ra_nil) (al_cons al_nil)) ra_nil)) (al_cons (al_cons al_nil)))) (rss_cons (rs_if (rt_cmp (os_eq (room64 hr)) (re_var 2) re_int (nomark _)) (rss_one (rs_ret re_non)) rss_nil) (rss_one (rs_ret (re_callG (ok_face_from T) (hr.mono (by decide)) T.g_face_from (ra_cons (re_fld T.n_frame (re_var 0)) (ra_cons (re_callG (ok_comb_at T) (hr.mono (by decide)) T.g_comb_at (ra_cons (re_fld T.n_plain (re_var 0)) (ra_cons (re_callG (ok_top_bit T) (hr.mono (by decide)) T.g_top_bit (ra_cons (re_var 2) ra_nil) (al_cons al_nil)) ra_nil)) (al_cons (al_cons al_nil))) ra_nil)) (al_cons (al_cons al_nil)))))))
theorem ok__law_odd (T : Tx K mg cl) : Good P w K mg base cl 1 (He.ga K "_law_odd") f__law_odd 2 :=
  have sc := sc__law_odd
  good_of T.F__law_odd sc rfl rfl (fun _ _ _ _ _ _ us hl => match us, hl with | [_, _], _ => rfl) fun cdv A outer s H E hr =>
    (rss_cons (rs_set 2 sc.nd re_int) (rss_cons (rs_for PassesOwn.never rfl (ri_range1 T.b_range (re_b1 c_len (pe_callB callr_any (by rfl) T.b_len boot_len (pa_cons peW pa_nil)) (re_var 0))) (rg_name 3 sc.nd) (rss_one (rs_set 2 sc.nd (re_bin os_add (re_var 2) (re_b1 c_len (pe_callB callr_any (by rfl) T.b_len boot_len (pa_cons peW pa_nil)) (re_frz (rf_lc (own := [("x", 4)]) rfl (by rfl) sc.nd (blkOk_by (by kernel_rfl)) (ri_range1 T.b_range (re_b1 c_len (pe_callB callr_any (by rfl) T.b_len boot_len (pa_cons peW pa_nil)) (re_ix (room64 hr) (re_var 0) (re_var 3)))) (fun _ _ _ _ _ => (rg_name 4 sc.nd)) (fun _ _ _ _ _ => (rts_one (rt_rw (rw_and (rt_cmp (os_eq (room64 hr)) (re_ix (room64 hr) (re_ix (room64 hr) (re_var 0) (re_var 3)) (re_var 4)) re_str (nomark _)) (rw_and1 (rt_cmp (os_eq (room64 hr)) (re_ix (room64 hr) (re_ix (room64 hr) (re_var 1) (re_var 3)) (re_var 4)) re_str (nomark _))))))) (fun _ _ _ _ _ => (re_var 4)) (by decide)))))))) (rss_one (rs_ret (re_cmp (os_eq (room64 hr)) (re_bin os_mod (re_var 2) re_int) re_int (nomark _))))))
theorem ok__law_faces_right (T : Tx K mg cl) : Good P w K mg base cl 5 (He.ga K "_law_faces_right") f__law_faces_right 4 :=
  have sc := sc__law_faces_right
  good_of T.F__law_faces_right sc rfl rfl (fun _ _ _ _ _ _ us hl => match us, hl with | [_, _, _, _], _ => rfl) fun cdv A outer s H E hr =>
    (rss_cons (rs_set 4 sc.nd (re_bin os_shl re_int (re_meth0 (methT T.cl_Lot T.k_Lot T.m_Lot_doublings ((ok_Lot_doublings T))) (fun c hm F b => pe_meth0 peW c hm F (hr.mono (by decide)) b .nil pass0) (re_var 2)))) (rss_cons (rs_set 5 sc.nd (re_bin os_add (re_frz (rf_lc (own := [("k", 8)]) rfl (by rfl) sc.nd (blkOk_by (by kernel_rfl)) (ri_range1 T.b_range re_int) (fun _ _ _ _ _ => (rg_name 8 sc.nd)) (fun _ _ _ _ _ => rts_nil) (fun _ _ _ _ _ => (re_meth (methT T.cl_Lot T.k_Lot T.m_Lot_member ((ok_Lot_member T))) (fun c hm F b => pe_meth peW c hm F (hr.mono (by decide)) b .nil pass0 paW) (re_var 2) (ra_cons (re_callG (ok__law_take T) (hr.mono (by decide)) T.g__law_take (ra_cons (re_var 0) (ra_cons (re_var 4) ra_nil)) (al_cons (al_cons al_nil))) ra_nil) (al_cons al_nil))) (by decide))) (re_frz (rf_lst (ra_cons (re_meth (methT T.cl_Lot T.k_Lot T.m_Lot_member ((ok_Lot_member T))) (fun c hm F b => pe_meth peW c hm F (hr.mono (by decide)) b .nil pass0 paW) (re_var 2) (ra_cons re_int ra_nil) (al_cons al_nil)) (ra_cons (re_meth (methT T.cl_Lot T.k_Lot T.m_Lot_member ((ok_Lot_member T))) (fun c hm F b => pe_meth peW c hm F (hr.mono (by decide)) b .nil pass0 paW) (re_var 2) (ra_cons (re_bin os_sub (re_var 4) re_int) ra_nil) (al_cons al_nil)) ra_nil)))))) (rss_cons (rs_for PassesOwn.never rfl (ri_any (re_bin os_add (re_var 5) (re_frz (rf_lc (own := [("k", 8)]) rfl (by rfl) sc.nd (blkOk_by (by kernel_rfl)) (ri_range1 T.b_range re_int) (fun _ _ _ _ _ => (rg_name 8 sc.nd)) (fun _ _ _ _ _ => rts_nil) (fun _ _ _ _ _ => (re_callG (ok__law_face T) (hr.mono (by decide)) T.g__law_face (ra_cons (re_var 0) (ra_cons (re_var 1) ra_nil)) (al_cons (al_cons al_nil)))) (by decide))))) (rg_name 6 sc.nd) (rss_cons (rs_if (rt_rw (rw_or (rt_cmp (os_ne (room64 hr)) (re_meth (methT T.cl_Lot T.k_Lot T.m_Lot_has ((ok_Lot_has T))) (fun c hm F b => pe_meth peW c hm F (hr.mono (by decide)) b .nil pass0 paW) (re_var 2) (ra_cons (re_var 6) ra_nil) (al_cons al_nil)) (re_meth (methT T.cl_Lot T.k_Lot T.m_Lot_has ((ok_Lot_has T))) (fun c hm F b => pe_meth peW c hm F (hr.mono (by decide)) b .nil pass0 paW) (re_var 3) (ra_cons (re_var 6) ra_nil) (al_cons al_nil)) (nomark _)) (rw_or1 (rt_cmp (os_ne (room64 hr)) (re_meth (methT T.cl_Lot T.k_Lot T.m_Lot_number_of ((ok_Lot_number_of T))) (fun c hm F b => pe_meth peW c hm F (hr.mono (by decide)) b .nil pass0 paW) (re_var 2) (ra_cons (re_var 6) ra_nil) (al_cons al_nil)) (re_meth (methT T.cl_Lot T.k_Lot T.m_Lot_number_of ((ok_Lot_number_of T))) (fun c hm F b => pe_meth peW c hm F (hr.mono (by decide)) b .nil pass0 paW) (re_var 3) (ra_cons (re_var 6) ra_nil) (al_cons al_nil)) (nomark _))))) (rss_one (rs_ret re_bl)) rss_nil) (rss_cons (rs_set 7 sc.nd (re_meth (methT T.cl_Lot T.k_Lot T.m_Lot_comb ((ok_Lot_comb T))) (fun c hm F b => pe_meth peW c hm F (hr.mono (by decide)) b .nil pass0 paW) (re_var 2) (ra_cons (re_var 6) ra_nil) (al_cons al_nil))) (rss_cons (rs_if (rt_rw (rw_or (rt_cmp (os_ne (room64 hr)) (re_meth (methT T.cl_Lot T.k_Lot T.m_Lot_comb ((ok_Lot_comb T))) (fun c hm F b => pe_meth peW c hm F (hr.mono (by decide)) b .nil pass0 paW) (re_var 2) (ra_cons (re_var 6) ra_nil) (al_cons al_nil)) (re_var 7) (nomark _)) (rw_or1 (rt_cmp (os_ne (room64 hr)) (re_cmp os_isN (re_var 7) re_non (nomark _)) (re_meth (methT T.cl_Lot T.k_Lot T.m_Lot_has ((ok_Lot_has T))) (fun c hm F b => pe_meth peW c hm F (hr.mono (by decide)) b .nil pass0 paW) (re_var 2) (ra_cons (re_var 6) ra_nil) (al_cons al_nil)) (nomark _))))) (rss_one (rs_ret re_bl)) rss_nil) (rss_one (rs_if (rt_cmp os_isN (re_var 7) re_non (nomark _)) (rss_one (rs_if (rt_cmp (os_ne (room64 hr)) (re_meth (methT T.cl_Lot T.k_Lot T.m_Lot_member ((ok_Lot_member T))) (fun c hm F b => pe_meth peW c hm F (hr.mono (by decide)) b .nil pass0 paW) (re_var 2) (ra_cons (re_meth (methT T.cl_Lot T.k_Lot T.m_Lot_number_of ((ok_Lot_number_of T))) (fun c hm F b => pe_meth peW c hm F (hr.mono (by decide)) b .nil pass0 paW) (re_var 2) (ra_cons (re_var 6) ra_nil) (al_cons al_nil)) ra_nil) (al_cons al_nil)) (re_var 6) (nomark _)) (rss_one (rs_ret re_bl)) rss_nil)) (rss_one (rs_if (rt_rw (rw_or (rt_not (rt_of (re_callG (ok__law_odd T) (hr.mono (by decide)) T.g__law_odd (ra_cons (re_var 7) (ra_cons (re_var 6) ra_nil)) (al_cons (al_cons al_nil))))) (rw_or1 (rt_cmp (os_in (room65 hr)) re_bl (re_frz (rf_lc (own := [("one", 9)]) rfl (by rfl) sc.nd (blkOk_by (by kernel_rfl)) (ri_any (re_bin os_add (re_meth0 (methT T.cl_Lot T.k_Lot T.m_Lot_rows ((ok_Lot_rows T))) (fun c hm F b => pe_meth0 peW c hm F (hr.mono (by decide)) b .nil pass0) (re_var 2)) (re_var 5))) (fun _ _ _ _ _ => (rg_name 9 sc.nd)) (fun _ _ _ _ _ => rts_nil) (fun _ _ _ _ _ => (re_callG (ok__law_odd T) (hr.mono (by decide)) T.g__law_odd (ra_cons (re_var 7) (ra_cons (re_var 9) ra_nil)) (al_cons (al_cons al_nil)))) (by decide))) (by rfl))))) (rss_one (rs_ret re_bl)) rss_nil)))))))) (rss_one (rs_ret re_bl)))))
theorem ok_alike (T : Tx K mg cl) : Good P w K mg base cl 2 (He.ga K "alike") f_alike 2 :=
  have sc := sc_alike
  good_of T.F_alike sc rfl rfl (fun _ _ _ _ _ _ us hl => match us, hl with | [_, _], _ => rfl) fun cdv A outer s H E hr =>
    (rss_cons (rs_expr (re_callG (ok_need_like T) (hr.mono (by decide)) T.g_need_like (ra_cons (re_var 0) (ra_cons (re_var 1) ra_nil)) (al_cons (al_cons al_nil)))) (rss_one (rs_ret (re_cmp (os_eq (room64 hr)) (re_fld T.n_plain (re_var 0)) (re_fld T.n_plain (re_var 1)) (nomark _)))))
theorem ok__law_pairs_right (T : Tx K mg cl) : GoodF P w K mg base cl 10 (He.ga K "_law_pairs_right") f__law_pairs_right 3 :=
  have sc := sc__law_pairs_right
  goodF_of T.F__law_pairs_right sc rfl rfl (fun _ _ _ _ _ _ us hl => match us, hl with | [_, _, _], _ => rfl) fun cdv A outer s H E hA hr =>
    (rss_cons (rs_for PassesOwn.never rfl (ri_range1 T.b_range re_int) (rg_name 3 sc.nd) (rss_cons (rs_set 4 sc.nd (re_ix (room64 hr) (re_var 2) (re_callG (ok__law_take T) (hr.mono (by decide)) T.g__law_take (ra_cons (re_var 0) (ra_cons (re_b1 c_len (pe_callB callr_any (by rfl) T.b_len boot_len (pa_cons peW pa_nil)) (re_var 2)) ra_nil)) (al_cons (al_cons al_nil))))) (rss_cons (rs_set 5 sc.nd (re_frz (rf_lst (ra_cons (re_ix (room64 hr) (re_var 2) (re_callG (ok__law_take T) (hr.mono (by decide)) T.g__law_take (ra_cons (re_var 0) (ra_cons (re_b1 c_len (pe_callB callr_any (by rfl) T.b_len boot_len (pa_cons peW pa_nil)) (re_var 2)) ra_nil)) (al_cons (al_cons al_nil)))) (ra_cons (re_ix (room64 hr) (re_var 2) (re_callG (ok__law_take T) (hr.mono (by decide)) T.g__law_take (ra_cons (re_var 0) (ra_cons (re_b1 c_len (pe_callB callr_any (by rfl) T.b_len boot_len (pa_cons peW pa_nil)) (re_var 2)) ra_nil)) (al_cons (al_cons al_nil)))) (ra_cons (re_var 4) ra_nil)))))) (rss_one (rs_for PassesOwn.never rfl (ri_any (re_bin os_add (re_var 5) (re_sl (re_var 5) ro_none (ro_some re_int)))) (rg_name 6 sc.nd) (rss_cons (rs_par 7 8 sc.nd (re_trimF (re_makeG T.cl_Lot T.mk_Lot (ok_Lot___init__ T) (hr.mono (by decide)) T.C_Lot (ra_cons (re_var 1) (ra_cons (re_meth0 (methT T.cl_Lot T.k_Lot T.m_Lot_rows ((ok_Lot_rows T))) (fun c hm F b => pe_meth0 peW c hm F (hr.mono (by decide)) b .nil pass0) (re_var 6)) ra_nil)) (al_cons (al_cons al_nil)))) (re_trimF (re_makeG T.cl_Lot T.mk_Lot (ok_Lot___init__ T) (hr.mono (by decide)) T.C_Lot (ra_cons (re_var 1) (ra_cons (re_meth0 (methT T.cl_Lot T.k_Lot T.m_Lot_rows ((ok_Lot_rows T))) (fun c hm F b => pe_meth0 peW c hm F (hr.mono (by decide)) b .nil pass0) (re_var 4)) ra_nil)) (al_cons (al_cons al_nil)))) (by rfl)) (rss_cons (rs_if (rt_cmp (os_ne (room64 hr)) (re_b1 (c_repr hA (room64 hr)) (pe_callB callr_any (by rfl) T.b_repr PyProof.Rows.boot_repr (pa_cons peW pa_nil)) (re_frz (rf_lst (ra_cons (re_callG (ok_alike T) (hr.mono (by decide)) T.g_alike (ra_cons (re_var 6) (ra_cons (re_var 4) ra_nil)) (al_cons (al_cons al_nil))) (ra_cons (re_callG (ok_alike T) (hr.mono (by decide)) T.g_alike (ra_cons (re_var 4) (ra_cons (re_var 6) ra_nil)) (al_cons (al_cons al_nil))) ra_nil))))) (re_b1 (c_repr hA (room64 hr)) (pe_callB callr_any (by rfl) T.b_repr PyProof.Rows.boot_repr (pa_cons peW pa_nil)) (re_bin os_mul (re_frz (rf_lst (ra_cons (re_cmp (os_eq (room64 hr)) (re_meth0 (methT T.cl_Lot T.k_Lot T.m_Lot_rows ((ok_Lot_rows T))) (fun c hm F b => pe_meth0 peW c hm F (hr.mono (by decide)) b .nil pass0) (re_var 6)) (re_meth0 (methT T.cl_Lot T.k_Lot T.m_Lot_rows ((ok_Lot_rows T))) (fun c hm F b => pe_meth0 peW c hm F (hr.mono (by decide)) b .nil pass0) (re_var 4)) (nomark _)) ra_nil))) re_int)) (nomark _)) (rss_one (rs_ret re_bl)) rss_nil) (rss_cons (rs_if (rt_cmp (os_ne (room64 hr)) (re_meth0 (methT T.cl_Lot T.k_Lot T.m_Lot_rows ((ok_Lot_rows T))) (fun c hm F b => pe_meth0 peW c hm F (hr.mono (by decide)) b .nil pass0) (re_callG (ok_joined T) (hr.mono (by decide)) T.g_joined (ra_cons (re_var 6) (ra_cons (re_var 4) ra_nil)) (al_cons (al_cons al_nil)))) (re_meth0 (methT T.cl_Lot T.k_Lot T.m_Lot_rows ((ok_Lot_rows T))) (fun c hm F b => pe_meth0 peW c hm F (hr.mono (by decide)) b .nil pass0) (re_trimF (re_makeG T.cl_Lot T.mk_Lot (ok_Lot___init__ T) (hr.mono (by decide)) T.C_Lot (ra_cons (re_var 1) (ra_cons (re_bin os_add (re_meth0 (methT T.cl_Lot T.k_Lot T.m_Lot_rows ((ok_Lot_rows T))) (fun c hm F b => pe_meth0 peW c hm F (hr.mono (by decide)) b .nil pass0) (re_var 6)) (re_meth0 (methT T.cl_Lot T.k_Lot T.m_Lot_rows ((ok_Lot_rows T))) (fun c hm F b => pe_meth0 peW c hm F (hr.mono (by decide)) b .nil pass0) (re_var 4))) ra_nil)) (al_cons (al_cons al_nil))))) (nomark _)) (rss_one (rs_ret re_bl)) rss_nil) (rss_one (rs_if (rt_cmp (os_ne (room64 hr)) (re_meth0 (methT T.cl_Lot T.k_Lot T.m_Lot_rows ((ok_Lot_rows T))) (fun c hm F b => pe_meth0 peW c hm F (hr.mono (by decide)) b .nil pass0) (re_callG (ok_met T) (hr.mono (by decide)) T.g_met (ra_cons (re_var 6) (ra_cons (re_var 4) ra_nil)) (al_cons (al_cons al_nil)))) (re_meth0 (methT T.cl_Lot T.k_Lot T.m_Lot_rows ((ok_Lot_rows T))) (fun c hm F b => pe_meth0 peW c hm F (hr.mono (by decide)) b .nil pass0) (re_callG (ok_met T) (hr.mono (by decide)) T.g_met (ra_cons (re_var 7) (ra_cons (re_var 8) ra_nil)) (al_cons (al_cons al_nil)))) (nomark _)) (rss_one (rs_ret re_bl)) rss_nil)))))))))) (rss_one (rs_ret re_bl)))
theorem okF_law (T : Tx K mg cl) {fd : FuncData} (F : FunD K "law" "law" (defArgs st_law) (defBody st_law) (defScope st_law) [] [] (He.ga K "law") fd) : FnF P w K mg base 12 (He.ga K "law") fd ["script"] (spM K cl f_law 1) :=
  have sc := sc_law
  fnDF_of F sc rfl rfl fun cdv A outer s H E hA hr =>
    (rss_cons (rs_set 1 sc.nd (re_callG (ok__law_bag T) (hr.mono (by decide)) T.g__law_bag (ra_cons (re_var 0) ra_nil) (al_cons al_nil))) (rss_cons (rs_set 2 sc.nd (re_callG (ok__law_box T) (hr.mono (by decide)) T.g__law_box (ra_cons (re_var 1) (ra_cons (re_ix (room64 hr) (re_frz (rf_lst (ra_cons re_int (ra_cons re_int ra_nil)))) (re_callG (ok__law_take T) (hr.mono (by decide)) T.g__law_take (ra_cons (re_var 1) (ra_cons re_int ra_nil)) (al_cons (al_cons al_nil)))) ra_nil)) (al_cons (al_cons al_nil)))) (rss_cons (rs_set 3 sc.nd (re_callG (ok__law_told_lots T) (hr.mono (by decide)) T.g__law_told_lots (ra_cons (re_var 1) (ra_cons (re_var 2) ra_nil)) (al_cons (al_cons al_nil)))) (rss_cons (rs_for PassesOwn.never rfl (ri_any (re_var 3)) (rg_name 4 sc.nd) (rss_cons (rs_set 5 sc.nd (re_trimF (re_makeG T.cl_Lot T.mk_Lot (ok_Lot___init__ T) (hr.mono (by decide)) T.C_Lot (ra_cons (re_var 2) (ra_cons (re_meth0 (methT T.cl_Lot T.k_Lot T.m_Lot_rows ((ok_Lot_rows T))) (fun c hm F b => pe_meth0 peW c hm F (hr.mono (by decide)) b .nil pass0) (re_var 4)) ra_nil)) (al_cons (al_cons al_nil))))) (rss_cons (rs_if (rt_rw (rw_or (rt_not (rt_of (re_callG (ok__law_alike_right T) (hr.mono (by decide)) T.g__law_alike_right (ra_cons (re_var 4) (ra_cons (re_var 5) ra_nil)) (al_cons (al_cons al_nil))))) (rw_or1 (rt_not (rt_of (re_callG (ok__law_makers_right T) (hr.mono (by decide)) T.g__law_makers_right (ra_cons (re_var 4) ra_nil) (al_cons al_nil))))))) (rss_one (rs_ret re_bl)) rss_nil) (rss_one (rs_if (rt_not (rt_of (re_callG (ok__law_faces_right T) (hr.mono (by decide)) T.g__law_faces_right (ra_cons (re_var 1) (ra_cons (re_var 2) (ra_cons (re_var 4) (ra_cons (re_var 5) ra_nil)))) (al_cons (al_cons (al_cons (al_cons al_nil))))))) (rss_one (rs_ret re_bl)) rss_nil))))) (rss_one (rs_ret (re_callF (ok__law_pairs_right T) hA (hr.mono (by decide)) T.g__law_pairs_right (ra_cons (re_var 1) (ra_cons (re_var 2) (ra_cons (re_var 3) ra_nil))) (al_cons (al_cons (al_cons al_nil))))))))))
end
end K19

set_option Elab.async false
set_option linter.all false
set_option maxRecDepth 100000
set_option maxHeartbeats 0
namespace K19
open PySem L2 MM
def names0 : List Str := ["MOST_SIDE", "UP", "FLAT", "TURNINGS", "is_whole", "is_side", "is_box", "is_face_row", "is_face", "is_face_of", "QUARTERS", "exchanges", "quarters", "turnings_of", "bits_of", "face_from", "cell_bit", "bit_cells", "turned_cell", "moves_of", "moved_bits", "top_bit", "sifted", "joined_rows", "plain_rows", "StampError", "Wrong", "Unlike", "NoNumber", "MOST_FACES"]
def names1 : List Str := ["all_moves", "lot_rows", "core_rows", "still_rows", "comb_at", "against_rows", "met_rows", "apart_over", "are_box_faces", "lot_from", "Lot", "need_like", "joined", "met", "alike", "_law_bag", "_law_take", "_law_box", "_law_face", "_law_spun", "_law_over", "_law_turnings", "_law_images", "_law_whole", "_law_seeds", "_law_odd", "_law_told_lots", "_law_makers_right", "_law_alike_right", "_law_faces_right"]
def names2 : List Str := ["_law_pairs_right"]
def names : List Str := names0 ++ names1 ++ names2
abbrev R : PySem.W.OpenRow := PySem.W.OpenLaw.row PySem.Challenge.rw_faceonface_k19_whole_told_lots
abbrev hk : PySem.W.Hook := hookX 4 xtra fa fn
def ob (s : PySem.W.SharedT) : AlX := obsXG 4 xtra fa fn (HandSHeadRun.getT s)
theorem ob_eq (s : PySem.W.SharedT) : ob s = hk.obs s.abs := obsXG_eq (HandSHeadRun.getT_eq s)
theorem run (w : World) : HandSHeadRun.RunEq R (PySem.W.view R.prog [67]) hk ob 6000 names w := by
  intro os
  kernel_rfl
theorem holds_of (hm : ∀ ns : List Int, ns.length ≤ 63 → ∃ ah', f_law [.scr (ns.map .int)] [] = some (.bl true, ah')) : PySem.Challenge.rw_faceonface_k19_whole_told_lots.Holds := by
  open PySem PySem.W PySem.Calls PyProof.Rows in
  w_on; o_law
  refine HandSHeadRun.head_any (r := OpenLaw.row PySem.Challenge.rw_faceonface_k19_whole_told_lots) (q := view (OpenLaw.row PySem.Challenge.rw_faceonface_k19_whole_told_lots).prog [67]) (H := hk) (ob := ob) (M := 6000) (loose := names) (d := HandSHeadRun.topDef (OpenLaw.row PySem.Challenge.rw_faceonface_k19_whole_told_lots).prog 67) (kwd := []) ob_eq
    (by kernel_rfl) (fun s => by kernel_rfl) run (by kernel_rfl) (by kernel_rfl) (by kernel_rfl) (by rfl) (by first | assumption | decide +kernel) (by decide +kernel) ⟨rfl, rfl, rfl, rfl, rfl, by decide +kernel⟩ ?hw ?hc
  case hw => w_witness2
  case hc =>
    refine MM.walk_ofF (l := PySem.Challenge.rw_faceonface_k19_whole_told_lots) (n := 63) (k := 12) (x := "script") rfl (by decide) (by kernel_rfl) ⟨rfl, by decide, by decide⟩ ?F
    intro w mg fa h Y G hmg0
    obtain ⟨K, KX, c⟩ := Y
    have hmg : mg ("law" : PySem.Str) = some (.ref fa) := by
      have e : (HandSHeadRun.topDef (OpenLaw.row PySem.Challenge.rw_faceonface_k19_whole_told_lots).prog 67).name = ("law" : PySem.Str) := by kernel_rfl
      rw [← e]
      exact hmg0
    have T := tx_of KX G c.d c.ex
    have ea := hmg.symm.trans T.g_law
    cases ea
    obtain ⟨fd, hF⟩ := T.F_law
    have b := FunD.bindsA (ps := ["script"]) hF fun _ _ _ _ _ _ us hl => match us, hl with | [_], _ => rfl
    exact ⟨K, fd, spM K (clT K) f_law 1, KX, fun s v => b s [v] rfl, fun H a ns hl _ hS => sp_start (hm ns hl) hS, fun base _ _ => okF_law T hF⟩
end K19

set_option linter.all false
set_option maxRecDepth 100000
namespace K19
open PySem L2 MM
open LM (mv1 moved Pl Xc Sp Cn parL)
section
variable {w h b : Nat} {L M : List Nat}
/-- a lot made frozen, where its faces are drawn -/
theorem mkF_drawn (W : Wh w h) {cs : List Cell} (hl : cs.length ≤ 60) {ah ah2 : AH} {δ : DL} {ma : MA} (hb : Bd ah2) (len : ah2.length = ah.length) (ha : ma δ ah = some ([bxD w h, .lst (cs.map (fD w h))], ah2)) : eMkF "Lot" f_Lot___init__ ma δ ah = some (lotD w h (lotRows w h (cs.map (bitsN w h))), ah2) := by
  have i := ev_linit W hl (LA.push (ah := ah2) (a := .lst (cs.map (fD w h))) (.inl rfl) [.ins "Lot" []]) (n := ah2.length) (by simp)
  rw [set_end] at i
  have m : eMake "Lot" f_Lot___init__ ma δ ah = some (.ptr ah2.length, ah2 ++ [.ins "Lot" (lotF w h (lotRows w h (cs.map (bitsN w h))))]) := by
    unfold eMake
    rw [ha, Option.bind_some]
    simp only [i, Option.bind_some]
  show (eMake "Lot" f_Lot___init__ ma δ ah).bind _ = _
  rw [m, Option.bind_some]
  have fz : freeze (.ptr ah2.length, ah2 ++ [.ins "Lot" (lotF w h (lotRows w h (cs.map (bitsN w h))))]) = some (lotD w h (lotRows w h (cs.map (bitsN w h))), ah2 ++ [.gone]) := by
    unfold freeze
    simp [lotD]
  rw [fz]
  exact congrArg some (trim_len len (lotD_bd _ _ _ _) hb)
theorem lays_gd : ∀ (k : Nat) (L : List Nat), Gd w h L → ∀ M ∈ lays w h k L, Gd w h M
  | 0, L, g, M, hM => by rw [List.mem_singleton.mp hM]; exact g
  | k + 1, L, g, M, hM => by
    unfold lays at hM
    split at hM
    · rw [List.mem_singleton.mp hM]; exact g
    · rcases List.mem_cons.mp hM with rfl | hM
      · exact g
      · exact lays_gd k _ (core_gd g.lt) M hM
def tlS (b w h : Nat) (x2 x3 x4 x5 : Option D) : DL := [some (.ptr b), some (bxD w h), x2, x3, x4, x5]
theorem cj (W : Wh w h) (p : Pl (w * h) L) (q : Pl (w * h) M) {a c : ME} {δ : DL} {ah : AH} (hb : Bd ah) (ea : a δ ah = some (lotD w h L, ah)) (ec : c δ ah = some (lotD w h M, ah)) : eCall f_joined (aCons a (aCons c aNil)) δ ah = some (lotD w h (LM.plain (L ++ M)), ah) := (call_ev (cons_ev ea (cons_ev ec (nil_ev _ _)))).trans (ev_joinedL W p q hb)
theorem cm (W : Wh w h) (p : Pl (w * h) L) (q : Pl (w * h) M) {a c : ME} {δ : DL} {ah : AH} (hb : Bd ah) (ea : a δ ah = some (lotD w h L, ah)) (ec : c δ ah = some (lotD w h M, ah)) : eCall f_met (aCons a (aCons c aNil)) δ ah = some (lotD w h (metRows w h L M), ah) := (call_ev (cons_ev ea (cons_ev ec (nil_ev _ _)))).trans (ev_metL W p q hb)
theorem ev_told (W : Wh w h) {ah : AH} (hBd : Bd ah) (hb : BagAt ah b) : ∃ (Ks : List (List Nat)) (ah' : AH), f__law_told_lots [.ptr b, bxD w h] ah = some (.lst (Ks.map (lotD w h)), ah') ∧ Bg b ah ah' ∧ (∀ K ∈ Ks, Gd w h K) ∧ 1 ≤ Ks.length ∧ Ks.length ≤ 1000 := by
  obtain ⟨c1, A1, e1, l1, g1⟩ := ev_seeds (b := b) (m := 4) (by decide) W hBd hb
  have b1 := g1.bd hBd
  obtain ⟨c2, A2, e2, l2, g2⟩ := ev_seeds (b := b) (m := 2) (by decide) W b1 g1.at'
  have b2 := g2.bd b1
  have m1 := mkF_drawn W (cs := c1) (by omega) b1 g1.len (ma := aCons (eVar 1) (aCons (eCall f__law_seeds (aCons (eVar 0) (aCons (eVar 1) (aCons (eC (.int 4)) aNil)))) aNil)) (δ := tlS b w h none none none none) (cons_ev (var_ev rfl) (cons_ev ((call_ev (cons_ev (a := eVar 0) rfl (cons_ev (a := eVar 1) rfl (cons_ev (a := eC (.int 4)) rfl (nil_ev _ _))))).trans e1) (nil_ev _ _)))
  have m2 := mkF_drawn W (cs := c2) (by omega) b2 g2.len (ma := aCons (eVar 1) (aCons (eCall f__law_seeds (aCons (eVar 0) (aCons (eVar 1) (aCons (eC (.int 2)) aNil)))) aNil)) (δ := tlS b w h none none none none) (cons_ev (var_ev rfl) (cons_ev ((call_ev (cons_ev (a := eVar 0) rfl (cons_ev (a := eVar 1) rfl (cons_ev (a := eC (.int 2)) rfl (nil_ev _ _))))).trans e2) (nil_ev _ _)))
  have gL := lot_gd w h (c1.map (bitsN w h))
  have gM := lot_gd w h (c2.map (bitsN w h))
  generalize lotRows w h (c1.map (bitsN w h)) = L at m1 gL
  generalize lotRows w h (c2.map (bitsN w h)) = M at m2 gM
  have s1 := par_ev (i := 2) (j := 3) m1 m2
  have p := gL.cn.pl
  have q := gM.cn.pl
  have gA := ag_gd gL
  have gC := core_gd (w := w) (h := h) gL.lt
  have gE := lot_gd w h []
  have s2 := asg_ev (i := 4) (frz_ev (lst_ev (cons_ev (a := eVar 2) (d := lotD w h L) (δ := tlS b w h (some (lotD w h L)) (some (lotD w h M)) none none) (ah := A2) rfl (cons_ev (mcore W p b2 (mo := eVar 2) rfl) (cons_ev (mstill W p b2 (mo := eVar 2) rfl) (cons_ev (magainst W p b2 (mo := eVar 2) rfl) (cons_ev (cj W p gA.cn.pl b2 (a := eVar 2) rfl (magainst W p b2 (mo := eVar 2) rfl)) (cons_ev (cm W p gC.cn.pl b2 (a := eVar 2) rfl (mcore W p b2 (mo := eVar 2) rfl)) (nil_ev _ _))))))) (by simp)))
  obtain ⟨F1, eF1, gF1, lF1⟩ : ∃ F1 : List (List Nat), F1 = [L, coreRows w h L, metRows w h L (stillRows w h), agRows w h L, LM.plain (L ++ agRows w h L), metRows w h L (coreRows w h L)] ∧ (∀ K ∈ F1, Gd w h K) ∧ F1.length = 6 := by
    refine ⟨_, rfl, fun K hK => ?_, rfl⟩
    simp only [List.mem_cons, List.not_mem_nil, or_false] at hK
    rcases hK with rfl | rfl | rfl | rfl | rfl | rfl
    · exact gL
    · exact gC
    · exact met_gd gL still_gd
    · exact gA
    · exact plain_gd gL gA
    · exact met_gd gL gC
  have eF : [lotD w h L, lotD w h (coreRows w h L), lotD w h (metRows w h L (stillRows w h)), lotD w h (agRows w h L), lotD w h (LM.plain (L ++ agRows w h L)), lotD w h (metRows w h L (coreRows w h L))] = F1.map (lotD w h) := by rw [eF1]; rfl
  rw [eF] at s2
  have mE := mkF_lot W (cs := []) (a := .lst []) (δ := tlS b w h (some (lotD w h L)) (some (lotD w h M)) (some (.lst (F1.map (lotD w h)))) none) (ma := aCons (eVar 1) (aCons (eFrz (fLst aNil)) aNil)) (by simp) b2 (.inl rfl) (cons_ev (var_ev rfl) (cons_ev rfl (nil_ev _ _)))
  have f2 := frz_ev (lst_ev (cons_ev (cj W p q b2 (a := eVar 2) (c := eVar 3) (δ := tlS b w h (some (lotD w h L)) (some (lotD w h M)) (some (.lst (F1.map (lotD w h)))) none) rfl rfl) (cons_ev (cm W p q b2 (a := eVar 2) (c := eVar 3) rfl rfl) (cons_ev (cj W gE.cn.pl p b2 mE (c := eVar 2) rfl) (nil_ev _ _)))) (by simp))
  obtain ⟨F2, eF2, gF2, lF2⟩ : ∃ F2 : List (List Nat), F2 = [LM.plain (L ++ M), metRows w h L M, LM.plain (lotRows w h [] ++ L)] ∧ (∀ K ∈ F2, Gd w h K) ∧ F2.length = 3 := by
    refine ⟨_, rfl, fun K hK => ?_, rfl⟩
    simp only [List.mem_cons, List.not_mem_nil, or_false] at hK
    rcases hK with rfl | rfl | rfl
    · exact plain_gd gL gM
    · exact met_gd gL gM
    · exact plain_gd gE gL
  have eF : [lotD w h (LM.plain (L ++ M)), lotD w h (metRows w h L M), lotD w h (LM.plain (lotRows w h [] ++ L))] = F2.map (lotD w h) := by rw [eF2]; rfl
  have f2 := f2.trans (congrArg (fun l => some (D.lst l, A2)) eF)
  have a1 := add_lst (a := eVar 4) (l := F1.map (lotD w h)) rfl f2 (by simp; omega)
  have ly := lays_len (w := w) (h := h) 5 L
  have a2 := add_lst a1 (mlayers W p b2 (mo := eVar 2) rfl) (by simp; omega)
  rw [← List.map_append, ← List.map_append] at a2
  have s3 := asg_ev (i := 4) a2
  have gF : ∀ K ∈ F1 ++ F2 ++ lays w h 5 L, Gd w h K := fun K hK => by
    rcases List.mem_append.mp hK with hK | hK
    · exact (List.mem_append.mp hK).elim (gF1 K) (gF2 K)
    · exact lays_gd 5 L gL K hK
  have lF : (F1 ++ F2 ++ lays w h 5 L).length ≤ 20 ∧ 1 ≤ (F1 ++ F2 ++ lays w h 5 L).length := by
    simp only [List.length_append]
    omega
  generalize F1 ++ F2 ++ lays w h 5 L = F at s3 gF lF
  have ln := len_lst (m := eVar 4) (δ := tlS b w h (some (lotD w h L)) (some (lotD w h M)) (some (.lst (F.map (lotD w h)))) none) (ah := A2) (l := F.map (lotD w h)) rfl
  rw [List.length_map] at ln
  have g12 := g1.trans g2
  obtain ⟨r, A3, t3, l3, g3⟩ := take_ev (δ := tlS b w h (some (lotD w h L)) (some (lotD w h M)) (some (.lst (F.map (lotD w h)))) none) (i := 0) (m := MM.e1 gLen (eVar 4)) g12.at' rfl ln (many := (F.length : Nat)) (by omega) (by omega)
  have rl : r < F.length := by omega
  have s4 := asg_ev (i := 5) (idx3 (m := eVar 4) (i := r) (l := F.map (lotD w h)) (d := lotD w h F[r]) rfl t3 (by simp [rl]))
  have gO := gF F[r] (List.getElem_mem rl)
  generalize F[r] = O at s4 gO
  have g13 := g12.trans g3
  have b3 := g13.bd hBd
  have o := gO.cn.pl
  have gOc := core_gd (w := w) (h := h) gO.lt
  have gMc := core_gd (w := w) (h := h) gM.lt
  have f5 := frz_ev (lst_ev (cons_ev (mcore W o b3 (mo := eVar 5) (δ := tlS b w h (some (lotD w h L)) (some (lotD w h M)) (some (.lst (F.map (lotD w h)))) (some (lotD w h O))) rfl) (cons_ev (magainst W o b3 (mo := eVar 5) rfl) (cons_ev (mstill W o b3 (mo := eVar 5) rfl) (cons_ev (cj W o gMc.cn.pl b3 (a := eVar 5) rfl (mcore W q b3 (mo := eVar 3) rfl)) (nil_ev _ _))))) (by simp))
  obtain ⟨F5, eF5, gF5, lF5⟩ : ∃ F5 : List (List Nat), F5 = [coreRows w h O, agRows w h O, metRows w h O (stillRows w h), LM.plain (O ++ coreRows w h M)] ∧ (∀ K ∈ F5, Gd w h K) ∧ F5.length = 4 := by
    refine ⟨_, rfl, fun K hK => ?_, rfl⟩
    simp only [List.mem_cons, List.not_mem_nil, or_false] at hK
    rcases hK with rfl | rfl | rfl | rfl
    · exact gOc
    · exact ag_gd gO
    · exact met_gd gO still_gd
    · exact plain_gd gO gMc
  have eF : [lotD w h (coreRows w h O), lotD w h (agRows w h O), lotD w h (metRows w h O (stillRows w h)), lotD w h (LM.plain (O ++ coreRows w h M))] = F5.map (lotD w h) := by rw [eF5]; rfl
  have f5 := f5.trans (congrArg (fun l => some (D.lst l, A3)) eF)
  have a5 := add_lst (a := eVar 4) (l := F.map (lotD w h)) rfl f5 (by simp; omega)
  have lo := lays_len (w := w) (h := h) 5 O
  have tk := sl_take (a := eC (.int ((2 : Nat) : Int))) (i := 2) (mlayers W o b3 (mo := eVar 5) (δ := tlS b w h (some (lotD w h L)) (some (lotD w h M)) (some (.lst (F.map (lotD w h)))) (some (lotD w h O))) rfl) rfl
  rw [← List.map_take] at tk
  have lt2 : ((lays w h 5 O).take 2).length ≤ 2 := by rw [List.length_take]; omega
  have gT : ∀ K ∈ (lays w h 5 O).take 2, Gd w h K := fun K hK => lays_gd 5 O gO K (List.mem_of_mem_take hK)
  generalize (lays w h 5 O).take 2 = T at tk lt2 gT
  have a6 := add_lst a5 tk (by simp; omega)
  rw [← List.map_append, ← List.map_append] at a6
  refine ⟨F ++ F5 ++ T, A3, ?_, g13, fun K hK => ?_, ?_, ?_⟩
  · have hs : s__law_told_lots (tlS b w h none none none none) ah = some (.rt (.lst ((F ++ F5 ++ T).map (lotD w h))), A3) := by
      unfold s__law_told_lots
      exact (seq_nx s1).trans ((seq_nx s2).trans ((seq_nx s3).trans ((seq_nx s4).trans (ret_ev a6))))
    exact (fn_rt rfl hs).trans (congrArg some (trim_len0 g13.len))
  · rcases List.mem_append.mp hK with hK | hK
    · exact (List.mem_append.mp hK).elim (gF K) (gF5 K)
    · exact gT K hK
  · simp only [List.length_append]; omega
  · simp only [List.length_append]; omega
end
def lw (ns : List Int) (x2 x3 x4 x5 : Option D) : DL := [some (.scr (ns.map .int)), some (.ptr 0), x2, x3, x4, x5]
theorem lot_turn {w h : Nat} {L : List Nat} (W : Wh w h) (w4 : w ≤ 4) (h4 : h ≤ 4) (g : Gd w h L) {ns : List Int} {x3 x5 : Option D} {ah : AH} (hBd : Bd ah) (hb : BagAt ah 0) : ∃ y5 ah', (sSeq (sAsg (tgN 5) (eMkF "Lot" f_Lot___init__ (aCons (eVar 2) (aCons (eMeth [("Lot", f_Lot_rows)] "rows" (eVar 4) aNil) aNil)))) (sSeq (sIf (tOrM (tNotM (tOf (eCall f__law_alike_right (aCons (eVar 4) (aCons (eVar 5) aNil))))) (tNotM (tOf (eCall f__law_makers_right (aCons (eVar 4) aNil))))) (sRet (eC (.bl false))) sNil) (sIf (tNotM (tOf (eCall f__law_faces_right (aCons (eVar 1) (aCons (eVar 2) (aCons (eVar 4) (aCons (eVar 5) aNil))))))) (sRet (eC (.bl false))) sNil))) (lw ns (some (bxD w h)) x3 (some (lotD w h L)) x5) ah = some (.nx (lw ns (some (bxD w h)) x3 (some (lotD w h L)) y5), ah') ∧ Bg 0 ah ah' := by
  have gl := gd_len W w4 h4 g
  have p := g.cn.pl
  have mk := mk_of W (fs := L) (ma := aCons (eVar 2) (aCons (eMeth [("Lot", f_Lot_rows)] "rows" (eVar 4) aNil) aNil)) (δ := lw ns (some (bxD w h)) x3 (some (lotD w h L)) x5) g.lt (by omega) hBd (rows_la L) (cons_ev (var_ev rfl) (cons_ev (mrows W p (mo := eVar 4) rfl) (nil_ev _ _)))
  rw [lot_self g] at mk
  have s1 := asg_ev (i := 5) mk
  have t2 : tOrM (tNotM (tOf (eCall f__law_alike_right (aCons (eVar 4) (aCons (eVar 5) aNil))))) (tNotM (tOf (eCall f__law_makers_right (aCons (eVar 4) aNil)))) (lw ns (some (bxD w h)) x3 (some (lotD w h L)) (some (lotD w h L))) ah = some (false, ah) :=
    (tor_f (tnot_ev (b := true) (tof_ev ((call_ev (cons_ev (a := eVar 4) (d := lotD w h L) rfl (cons_ev (a := eVar 5) (d := lotD w h L) rfl (nil_ev _ _)))).trans (ev_alike_right W p hBd))))).trans (tnot_ev (b := true) (tof_ev ((call_ev (cons_ev (a := eVar 4) (d := lotD w h L) rfl (nil_ev _ _))).trans (ev_makers_right W g hBd))))
  obtain ⟨A, e3, g3⟩ := ev_faces_right (b := 0) W g hBd hb
  have t3 : tNotM (tOf (eCall f__law_faces_right (aCons (eVar 1) (aCons (eVar 2) (aCons (eVar 4) (aCons (eVar 5) aNil)))))) (lw ns (some (bxD w h)) x3 (some (lotD w h L)) (some (lotD w h L))) ah = some (false, A) := tnot_ev (b := true) (tof_ev ((call_ev (cons_ev (a := eVar 1) rfl (cons_ev (a := eVar 2) rfl (cons_ev (a := eVar 4) rfl (cons_ev (a := eVar 5) rfl (nil_ev _ _)))))).trans e3))
  exact ⟨_, A, (seq_nx s1).trans ((seq_nx (nil_t t2)).trans (nil_t' t3)), g3⟩
theorem law_end (ns : List Int) (hn : ns.length ≤ 63) : ∃ ah', f_law [.scr (ns.map .int)] [] = some (.bl true, ah') := by
  suffices hs : ∃ A, s_law [some (.scr (ns.map .int)), none, none, none, none, none] [] = some (.rt (.bl true), A) by
    obtain ⟨A, e⟩ := hs
    have := fn_rt (n := 6) (k := 1) (s := s_law) (ds := [.scr (ns.map .int)]) (ah := []) rfl e
    refine ⟨(trim [] (.bl true, A)).2, this.trans (congrArg some ?_)⟩
    unfold trim
    split <;> rfl
  obtain ⟨cs, eb, ob⟩ := ev_lbag ns hn
  have bd0 : Bd [.lst (bagL 0 1234567891 0 cs)] := by
    intro o ho
    rw [List.mem_singleton.mp ho]
    exact bag_bd _ _ _ _ _
  have bag0 : BagAt [.lst (bagL 0 1234567891 0 cs)] 0 := ⟨_, _, _, _, rfl, ob⟩
  generalize [AO.lst (bagL 0 1234567891 0 cs)] = H0 at eb bd0 bag0
  have s1 : sAsg (tgN 1) (eCall f__law_bag (aCons (eVar 0) aNil)) [some (.scr (ns.map .int)), none, none, none, none, none] [] = some (.nx (lw ns none none none none), H0) := asg_ev ((call_ev (cons_ev (var_ev rfl) (nil_ev _ _))).trans eb)
  obtain ⟨r0, A0, t0, l0, g0⟩ := take_ev (δ := lw ns none none none none) (i := 1) (m := eC (.int 2)) bag0 rfl rfl (many := 2) (by decide) (by decide)
  have hm : ∃ most : Nat, [D.int 3, .int 4][r0]? = some (.int (most : Nat)) ∧ 1 ≤ most ∧ most ≤ 4 := by
    match r0, l0 with
    | 0, _ => exact ⟨3, rfl, by decide, by decide⟩
    | 1, _ => exact ⟨4, rfl, by decide, by decide⟩
    | n + 2, l => omega
  obtain ⟨most, em, m1, m2⟩ := hm
  obtain ⟨w, h, A1, ex, w1, w2, h1, h2, g1⟩ := ev_boxM m1 (by omega) g0.at'
  have W : Wh w h := ⟨w1, by omega, h1, by omega⟩
  have s2 : sAsg (tgN 2) (eCall f__law_box (aCons (eVar 1) (aCons (eIx (eFrz (fLst (aCons (eC (.int 3)) (aCons (eC (.int 4)) aNil)))) (eCall f__law_take (aCons (eVar 1) (aCons (eC (.int 2)) aNil)))) aNil))) (lw ns none none none none) H0 = some (.nx (lw ns (some (bxD w h)) none none none), A1) := asg_ev ((call_ev (cons_ev (var_ev rfl) (cons_ev (idx3 (l := [.int 3, .int 4]) (frz_ev rfl) t0 em) (nil_ev _ _)))).trans ex)
  have g01 := g0.trans g1
  obtain ⟨Ks, A2, e2, g2, hK, k0, k1⟩ := ev_told (b := 0) W (g01.bd bd0) g01.at'
  have s3 : sAsg (tgN 3) (eCall f__law_told_lots (aCons (eVar 1) (aCons (eVar 2) aNil))) (lw ns (some (bxD w h)) none none none) A1 = some (.nx (lw ns (some (bxD w h)) (some (.lst (Ks.map (lotD w h)))) none none), A2) := asg_ev ((call_ev (cons_ev (a := eVar 1) rfl (cons_ev (a := eVar 2) rfl (nil_ev _ _)))).trans e2)
  have g02 := g01.trans g2
  obtain ⟨δ', A3, e3, g03, x4, x5, rfl⟩ := for_foldH (g := tgN 4) (b := (sSeq (sAsg (tgN 5) (eMkF "Lot" f_Lot___init__ (aCons (eVar 2) (aCons (eMeth [("Lot", f_Lot_rows)] "rows" (eVar 4) aNil) aNil)))) (sSeq (sIf (tOrM (tNotM (tOf (eCall f__law_alike_right (aCons (eVar 4) (aCons (eVar 5) aNil))))) (tNotM (tOf (eCall f__law_makers_right (aCons (eVar 4) aNil))))) (sRet (eC (.bl false))) sNil) (sIf (tNotM (tOf (eCall f__law_faces_right (aCons (eVar 1) (aCons (eVar 2) (aCons (eVar 4) (aCons (eVar 5) aNil))))))) (sRet (eC (.bl false))) sNil)))) (i := lotD w h) (f := fun (u : Unit) _ => u) (J := fun _ δ H => Bg 0 H0 H ∧ ∃ x4 x5, δ = lw ns (some (bxD w h)) (some (.lst (Ks.map (lotD w h)))) x4 x5) (l := Ks) (s := ()) (δ := lw ns (some (bxD w h)) (some (.lst (Ks.map (lotD w h)))) none none) (ah := A2) ⟨g02, _, _, rfl⟩ (by
    rintro K hKs _ δ H ⟨gH, x4, x5, rfl⟩
    obtain ⟨y5, A, e, gA⟩ := lot_turn W (by omega) (by omega) (hK K hKs) (ns := ns) (x3 := some (.lst (Ks.map (lotD w h)))) (x5 := x5) (gH.bd bd0) gH.at'
    exact ⟨_, _, A, rfl, e, gH.trans gA, _, _, rfl⟩)
  obtain ⟨A4, e4⟩ := ev_pairs (b := 0) W (by omega) (by omega) hK k0 k1 (g03.bd bd0) g03.at'
  refine ⟨A4, ?_⟩
  unfold s_law
  exact (seq_nx s1).trans ((seq_nx s2).trans ((seq_nx s3).trans ((seq_nx ((for_ev (iAny_lst (l := Ks.map (lotD w h)) (var_ev rfl))).trans e3)).trans (ret_ev ((call_ev (cons_ev (a := eVar 1) rfl (cons_ev (a := eVar 2) rfl (cons_ev (a := eVar 3) rfl (nil_ev _ _))))).trans e4)))))
theorem holds : PySem.Challenge.rw_faceonface_k19_whole_told_lots.Holds := holds_of law_end
end K19

theorem PySem.Challenge.cw_faceonface_k19_whole_told_lots_holds : PySem.Challenge.rw_faceonface_k19_whole_told_lots.Holds := by
  exact K19.holds
